import PyProof.Rows.All
import Wide.All
import OpenK.AllK
import Wide.FinOn
import HandS.ForMost
import HandS.ForExc
import HandS.WideBits
import HandS.EndBits
import HandS.Defaults
import HandS.FStrTup
import HandS.IsInst
import HandS.More
import HandS.Style
import HandS.Steps
import HandS.MakeKwOnly
import HandS.SortInts
import HandS.SortRule
import HandS.DictComp
import HandS.SetFor
import HandS.Remove
import HandS.Small
import HandS.Codes
import HandS.WordsDict
import HandS.FStr
import HandS.Deep
import HandS.Zip
import HandS.Conv
import HandS.SetBool
import HandS.Strs
import HandS.TupSets
import HandS.Finally
import PyProof.Walks
import PyProof.FactsAll.subtypes_4
import KE.KDictZip
import KE.SortData
import HandS.DeepEq
import KE.KDictSum
import KE.DataMinMax
import HandS.DictTup
import KE.KDictItemsList
import PySem.Challenge.RW_forkthrift_k41_columns
set_option Elab.async false
set_option linter.all false
set_option maxRecDepth 100000
set_option maxHeartbeats 4000000
namespace G
open PySem PySem.Spec PyProof.Rows L2

/-! the call layer once more, with the guards known -/
structure RoomG (k : Nat) (A : Around) : Prop where
  r : Room k A
  g : A.guards = some []
theorem RoomG.mono {j k : Nat} {A : Around} (z : RoomG k A) (h : j ≤ k) : RoomG j A :=
  ⟨z.r.mono h, z.g⟩
theorem RoomG.deeper {k : Nat} {A : Around} (z : RoomG (k + 1) A) (env : Env) :
    RoomG k (A.deeper env) := ⟨z.r.deeper env, z.g⟩
theorem make_guards {A : Around} {C : Addr} {us : List Value} {kw : List (Str × Value)} :
    (A.under (.builtin "type.__call__" ⟨.ref C :: us, kw⟩)).guards = A.guards := by
  first
    | rfl
    | (simp only [Around.under]
       rw [pushGuards_eq]
       have e : Code.guards (.builtin "type.__call__" ⟨.ref C :: us, kw⟩) = [] := by
         simp [Code.guards, Code.isGuard, guardIds]
       rw [e]
       cases A.guards <;> rfl)
theorem RoomG.make {k : Nat} {A : Around} (z : RoomG (k + 1) A) (C : Addr) (us : List Value)
    (kw : List (Str × Value)) : RoomG k (A.under (.builtin "type.__call__" ⟨.ref C :: us, kw⟩)) :=
  ⟨z.r.make C us kw, make_guards.trans z.g⟩

structure FnG (P : Program) (w : World) (K : PySem.W.Frag) (mg : Str → Option Value) (base : Heap)
    (k : Nat) (f : Addr) (fd : FuncData) (ps : List Str) (sp : Sp) : Prop where
  len : ∀ vs H Q E, sp vs H Q E → vs.length = ps.length
  run : ∀ (A : Around) (outer : List Env) (s : Shared) (H : Hp) (args : Args) (us : List Value)
    (vs : List V) (Q : VK) (E : XK), RoomG k A → Env0 P w K mg base A outer s H →
    BindsTo s fd args (ps.zip us) → Vals vs us → sp vs H Q E →
    codeAny (model P w) A (.call (.ref f) args) (CR (L2.CX P w) outer P w H s Q E) s
section
variable {P : Program} {w : World} {K : PySem.W.Frag} {mg : Str → Option Value} {base : Heap}
theorem FnG.mono {j k : Nat} {f : Addr} {fd : FuncData} {ps : List Str} {sp : Sp}
    (F : FnG P w K mg base j f fd ps sp) (h : j ≤ k) : FnG P w K mg base k f fd ps sp :=
  ⟨F.len, fun A o s H args us vs Q E z => F.run A o s H args us vs Q E (z.mono h)⟩
theorem FnG.of {k : Nat} {f : Addr} {fd : FuncData} {ps : List Str} {sp : Sp}
    (F : FnOk P w K mg base (L2.CX P w) k f fd ps sp) : FnG P w K mg base k f fd ps sp :=
  ⟨F.len, fun A o s H args us vs Q E z => F.run A o s H args us vs Q E z.r⟩

/-- a def by its body -/
theorem FnG.body {k : Nat} {f : Addr} {name qual : Str} {params : Arguments} {body : List Stmt}
    {sc : Scope} {dV kV doc pm cdv ct oc : Value} {an od : Option Addr} {osl : Array (Option Value)}
    {N ps : List Str} {sp : Sp}
    (lk : K.lookup f = some ⟨oc, od, .func (PySem.W.fnOf name qual params body sc dV kV doc pm an cdv ct), osl⟩)
    (hcd : PySem.W.codeIn K cdv qual = true) (S : FnScope N ps sc)
    (len : ∀ vs H Q E, sp vs H Q E → vs.length = ps.length)
    (hb : ∀ (A : Around) (outer : List Env) (s : Shared) (H : Hp) (vs : List V) (Q : VK) (E : XK),
      RoomG k (A.deeper (envOfC qual sc s.heap.objs.size f cdv)) → sp vs H Q E →
      ∃ t, PSs (cxOf (L2.CX P w) P w K mg base N qual sc f cdv A outer s H E) body t ∧
        t { nx := fun _ H' => Q .non H', rt := Q } (start N vs) H) :
    FnG P w K mg base (k + 1) f
      (PySem.W.fnOf name qual params body sc dV kV doc pm an cdv ct) ps sp := by
  refine ⟨len, ?_⟩
  intro A outer s H args us vs Q E z e0 bd rv hsp
  have n0 := len _ _ _ _ hsp
  have kin : K.In s.heap :=
    e0.mod.kin.keeps (fun b o e => (e0.bs b o e).1)
  have lim : s.heap.NoLimit :=
    e0.mod.nolimit.keeps (fun b o e => (e0.bs b o e).1)
  have kinds : ∀ y ∈ ps.zip us, sc.names.lookup y.1 = some .local ∨
      (sc.names.lookup y.1 = some .cell ∧
        ((cellsFrom (s.heap.objs.size + 1) sc.names []).lookup y.1).isSome = true) := by
    intro y hy
    obtain ⟨m, v⟩ := y
    cases S.par m (List.of_mem_zip hy).1 with
    | inl q => exact Or.inl q
    | inr q => exact Or.inr ⟨q, PySem.W.cellsFrom_some _ _ _ (Or.inl q)⟩
  refine codeAny_call_function z.r.depth (kin _ _ lk) rfl S.co S.gen rfl
    (PySem.W.codeRec_of kin hcd) (bd _ _ _ _ ?_)
  refine wpAny_newFunctionEnv_cells S.kind kinds ?_
  intro env he s1 x
  subst he
  refine ⟨lim.keeps x.toInCall.keep, ?_⟩
  refine codeAny_func ?_
  obtain ⟨t, ht, hq⟩ := hb A outer s H vs Q E (z.deeper _) hsp
  have I := inv_start (CX := L2.CX P w) (K := K) (mg := mg) (base := base) (E := E)
    S z.r.hd e0 n0 rv x
  refine wpAny_mono (ht.run [] s1 (start N vs) H _ I hq) ?_ (fun e s' hs => hs)
  intro fl s' hs
  have fin : ∀ {τ : L2.St} {G : Hp} {v : V} {u : Value},
      Inv (cxOf (L2.CX P w) P w K mg base N qual sc f cdv A outer s H E) [] τ G s' →
      RelV v u → Q v G → CE outer P w H s Q u s' := by
    intro τ G v u J r q
    exact ⟨v, G, J.os, J.bare, J.base, J.hok, r, q⟩
  match fl, hs with
  | .ret u, ⟨v, τ, G, J, r, q⟩ => exact fin J r q
  | .next, ⟨τ, G, J, q⟩ => exact fin (v := .non) (u := Value.none) J rfl q
  | .brk, ⟨_, _, _, q⟩ => exact False.elim q
  | .cont, ⟨_, _, _, q⟩ => exact False.elim q
end
end G
namespace G
open PySem PySem.Spec PyProof.Rows L2
section
variable {X : Cx} {k n : Nat} {f C : Addr} {fd : FuncData} {ps ks : List Str} {sp : Sp}
variable {dvs : List V} {ds : List Value} {E : XK} {x m : Str} {p pos apos : Pos} {e o : Expr}
variable {es : List Expr} {ta : TE} {t tk : TA} {pins : List (Addr × Obj)} {σ : L2.St} {H : Hp}
variable {s s' : Shared} {Q : VK}
abbrev Fg (X : Cx) (k : Nat) (f : Addr) (fd : FuncData) (ps : List Str) (sp : Sp) : Prop :=
  FnG X.prog X.w X.K X.mg X.base k f fd ps sp
abbrev Ps (X : Cx) (E : XK) : Prop := Passes (L2.CX X.prog X.w) X E

def Got (X : Cx) (R : Value → Shared → Prop) : Result → Shared → Prop
  | .ok (.ret u), s' => R u s'
  | .ok _, _ => False
  | .error e, s' => X.xe e s'
theorem ended (I : Inv X pins σ H s) (hx : Ps X E) {R : Value → Shared → Prop}
    (hR : ∀ u s', CE X.stack X.prog X.w H s Q u s' → R u s') {r : Result}
    (q : CR (L2.CX X.prog X.w) X.stack X.prog X.w H s Q E r s') : Got X R r s' := by
  match r, q with
  | .error e, q => exact hx pins σ H s e s' I q
  | .ok (.ret u), q => exact hR u s' q
  | .ok .next, q => exact False.elim q
  | .ok .brk, q => exact False.elim q
  | .ok .cont, q => exact False.elim q

theorem runG {args : Args} {us : List Value} {vs : List V} (F : Fg X k f fd ps sp)
    (z : RoomG k X.A) (hb : BindsTo s fd args (ps.zip us)) (hx : Ps X E) (I : Inv X pins σ H s)
    (rv : Vals vs us) (h : sp vs H Q E) :
    codeAny (model X.prog X.w) X.A (.call (.ref f) args) (Got X (EP X pins σ Q)) s := by
  refine codeAny_mono (F.run X.A X.stack s H args us vs Q E z I.env0 hb rv h) ?_
  intro r s' q
  exact ended I hx (fun u s' c => I.after c) q

theorem run1 {us : List Value} {vs : List V} (F : Fg X k f fd ps sp) (z : RoomG k X.A)
    (hb : Binds X.K fd ps ds) (hd : Vals dvs ds) (hx : Ps X E) (I : Inv X pins σ H s)
    (rv : Vals vs us) (h : sp (vs ++ dvs) H Q E) :
    wpAny (model X.prog X.w) X.A (call (.ref f) us) (EP X pins σ Q) X.xe s := by
  have r2 : Vals (vs ++ dvs) (us ++ ds) := rv.append hd
  have hl : (us ++ ds).length = ps.length := by
    rw [← r2.length]
    exact F.len _ _ _ _ h
  refine wpAny_call (codeAny_mono (runG F z (hb s us I.kIn hl) hx I r2 h) ?_)
  intro r s' q
  match r, q with
  | .error e, q => exact q
  | .ok (.ret u), q => exact q
  | .ok .next, q => exact q
  | .ok .brk, q => exact q
  | .ok .cont, q => exact q

theorem c1 (F : Fg X k f fd ps sp) (z : RoomG k X.A) (hg : Gl X x) (hm : X.mg x = some (.ref f))
    (hk : PySem.W.keepIn X.K (.ref f) = true) (hb : Binds X.K fd ps ds) (hd : Vals dvs ds)
    (hx : Ps X E) (ha : PA X (e :: es) t)
    (hdb : (x == ("__debug__" : Str)) = false := by decide)
    (he : starEach (e :: es) X.env = (false, eval e X.env) :: starEach es X.env := by rfl)
    (hpl : (backTo pos (starEach es X.env)).any (·.1) = false := by rfl) :
    PE X (.Call (.Name x p) (e :: es) [] pos) (tCall sp dvs E t) := by
  constructor
  intro pins s σ H Q I h
  refine wpAny_Call_Name_kw (ld_glob I hg hm ?_ hdb)
  refine PySem.W.callWith_K (h₀ := X.base) I.ok.mod.kin hk ?_ he hpl
  refine thn (ha.run pos pins s σ H _ I h) ?_
  intro us s1 y
  obtain ⟨vs, H1, I1, r, q⟩ := y
  exact ⟨I1.kIn, run1 F z hb hd hx I1 r q⟩

theorem c0 (F : Fg X k f fd ps sp) (z : RoomG k X.A) (hg : Gl X x) (hm : X.mg x = some (.ref f))
    (hk : PySem.W.keepIn X.K (.ref f) = true) (hb : Binds X.K fd ps ds) (hd : Vals dvs ds)
    (hx : Ps X E) (hdb : (x == ("__debug__" : Str)) = false := by decide) :
    PE X (.Call (.Name x p) [] [] pos) (tCall sp dvs E tNil) := by
  constructor
  intro pins s σ H Q I h
  refine wpAny_Call_Name_kw (ld_glob I hg hm ?_ hdb)
  exact PySem.W.callWith_K0 I.kIn hk (run1 (us := []) F z hb hd hx I .nil h)

/-- o.m(..) -/
theorem cm {pl : Sem Bool} (he : PE X o ta) (c : Cls X.K C) (hm : Meth X.K C m f)
    (F : Fg X k f fd ps sp) (z : RoomG k X.A) (hb : Binds X.K fd ps ds) (hd : Vals dvs ds)
    (hx : Ps X E) (ha : PA X (e :: es) t)
    (hst : starEach (e :: es) X.env = (false, eval e X.env) :: starEach es X.env := by rfl)
    (hpl : (backTo pos (starEach es X.env)).any (·.1) = false := by rfl)
    (ht : eval (.Call (.Attribute o m apos) (e :: es) [] pos) X.env = (do
      let y ← eval o X.env
      standAt apos.atName
      let (g, a) ← holding [y] (getMethod y m pl)
      callWith pos g a (backTo pos (starEach (e :: es) X.env))
        (backToKw pos (keywordEach [] X.env))) := by rfl) :
    PE X (.Call (.Attribute o m apos) (e :: es) [] pos) (tMeth C m sp dvs E ta t) := by
  constructor
  intro pins s σ H Q I h
  refine PySem.W.methodCall_KW (pl := pl) (thn (he.run pins s σ H _ I h) ?_) ht
  intro u s1 y
  obtain ⟨v, H1, I1, rx, a, dx, fs, ex, ea, l, q⟩ := y
  subst ex
  obtain rfl : u = Value.ref a := rx
  refine getmeth_ok I1 ea c hm l ?_
  refine PySem.W.callWith_K (first := [.ref a]) (h₀ := X.base) I.ok.mod.kin hm.kp ?_ hst hpl
  refine thn (ha.run pos pins s1 σ H1 _ I1 q) ?_
  intro us s2 y
  obtain ⟨vs, H2, I2, r, q2⟩ := y
  exact ⟨I2.kIn, run1 (us := .ref a :: us) (vs := .ref a :: vs) F z hb hd hx I2 (.cons rfl r) q2⟩
/-- o.m() -/
theorem cm0 {pl : Sem Bool} (he : PE X o ta) (c : Cls X.K C) (hm : Meth X.K C m f)
    (F : Fg X k f fd ps sp) (z : RoomG k X.A) (hb : Binds X.K fd ps ds) (hd : Vals dvs ds)
    (hx : Ps X E)
    (ht : eval (.Call (.Attribute o m apos) [] [] pos) X.env = (do
      let y ← eval o X.env
      standAt apos.atName
      let (g, a) ← holding [y] (getMethod y m pl)
      callWith pos g a (backTo pos (starEach [] X.env))
        (backToKw pos (keywordEach [] X.env))) := by rfl) :
    PE X (.Call (.Attribute o m apos) [] [] pos) (tMeth C m sp dvs E ta tNil) := by
  constructor
  intro pins s σ H Q I h
  refine PySem.W.methodCall_KW (pl := pl) (thn (he.run pins s σ H _ I h) ?_) ht
  intro u s1 y
  obtain ⟨v, H1, I1, rx, a, dx, fs, ex, ea, l, q⟩ := y
  subst ex
  obtain rfl : u = Value.ref a := rx
  refine getmeth_ok I1 ea c hm l ?_
  refine PySem.W.callWith_K0 (first := [.ref a]) I1.kIn hm.kp ?_
  exact run1 (us := [.ref a]) (vs := [.ref a]) F z hb hd hx I1 (.cons rfl .nil) q
end
end G
namespace G
open PySem PySem.Spec PyProof.Rows L2

/-- the heap at the law's entry: the script alone is tracked, or nothing -/
theorem lawG {P : Program} {w : World} {K : PySem.W.Frag} {mg mb : Str → Option Value} {k : Nat}
    {fa a : Addr} {fd : FuncData} {x : Str} {sp : Sp} {s0 : Shared} {vs : List Value}
    {ns : List Int} (kin : K.In s0.heap) (hns : s0.heap.Ns mainGlobals mg)
    (hb : s0.heap.Ns builtinsNs mb) (hbb : ∀ y : Str, y ≠ "__name__" → mb y = bootBuiltins y)
    (lim : s0.heap.NoLimit) (hg : s0.gens = #[])
    (ha : s0.heap.get? a = some { cls := .type "list", data := .seq vs.toArray })
    (hi : IntsAre vs ns) (hl : ns.length ≤ sizeLine) (z : RoomG k callerA)
    (F : ∀ base : Heap, K.In base → base.Ns mainGlobals mg → FnG P w K mg base k fa fd [x] sp)
    (bd : ∀ (s : Shared) (u : Value), BindsTo s fd ⟨[u], []⟩ [(x, u)])
    (hsp : ∀ H : Hp, Only H → SqL K H a (ns.map V.int) →
      sp [.ref a] H (fun v _ => v = .bl true) fun _ _ _ => False) :
    codeAny (model P w) callerA (.call (.ref fa) ⟨[.ref a], []⟩)
      (fun r s' => r = .ok (.ret (.bool true)) ∧ OldK s0.heap s'.heap ∧ s'.os = s0.os ∧
        AllBare s'.gens) s0 := by
  have rv := vals_ints hi
  have lv := hi.length
  have core : ∀ H : Hp, Only H → SqL K H a (ns.map V.int) → HOk P w H s0.heap →
      (∀ b, H b ≠ none → b = a) → (H a ≠ none → K.lookup a = none) →
      codeAny (model P w) callerA (.call (.ref fa) ⟨[.ref a], []⟩)
        (fun r s' => r = .ok (.ret (.bool true)) ∧ OldK s0.heap s'.heap ∧ s'.os = s0.os ∧
          AllBare s'.gens) s0 := by
    intro H only sq hok only_a notK
    have at_a : ∀ {b : Addr}, H b ≠ none → b = a := fun {b} q => only_a b q
    have seqs : ∀ {b : Addr} {o : Obj} {es : Array DictEntry} {ep : Nat},
        s0.heap.get? b = some o → o.data = .dict es ep → H b = none := by
      intro b o es ep e d
      cases q : H b with
      | none => rfl
      | some u =>
        obtain rfl := at_a (b := b) (by rw [q]; exact fun y => nomatch y)
        rw [ha] at e
        cases e
        have d' : Data.seq vs.toArray _ = Data.dict es ep := d
        cases d'
    have nsb : ∀ {b : Addr} {g : Str → Option Value}, s0.heap.Ns b g →
        (hidT s0.heap H).Ns b g := by
      intro b g y
      obtain ⟨o, es, ep, e, d, r⟩ := y
      exact ⟨o, es, ep, hidT_get e (seqs e d), d, r⟩
    have kb : K.In (hidT s0.heap H) := by
      intro b o e
      refine hidT_get (kin b o e) ?_
      cases q : H b with
      | none => rfl
      | some u =>
        obtain rfl := at_a (b := b) (by rw [q]; exact fun y => nomatch y)
        rw [notK (by rw [q]; exact fun y => nomatch y)] at e
        cases e
    have md : Mod K mg (hidT s0.heap H) := by
      obtain ⟨mc, l1, l2⟩ := lim
      exact ⟨kb, nsb hns, ⟨mb, nsb hb, hbb⟩, ⟨mc, nsb l1, l2⟩⟩
    have e0 : Env0 P w K mg (hidT s0.heap H) callerA [] s0 H :=
      ⟨rfl, md, fun b o e => of_hidT e, Nat.le_of_eq (hidT_size _ _), trivial,
        fun b q => absurd (show b ∈ ([] : List Addr) from q) List.not_mem_nil, hok, .of_eq hg⟩
    have run := (F _ kb (nsb hns)).run callerA [] s0 H ⟨[.ref a], []⟩ [.ref a] [.ref a] _ _
      z e0 (bd s0 (.ref a)) (.cons rfl .nil) (hsp H only sq)
    refine codeAny_mono run ?_
    intro r s' h
    match r, h with
    | .error e, h =>
      obtain ⟨_, _, _, _, _, _, _, _, _, _, _, _, y⟩ := h
      exact y.elim
    | .ok .next, h => exact False.elim h
    | .ok .brk, h => exact False.elim h
    | .ok .cont, h => exact False.elim h
    | .ok (.ret u), h =>
      obtain ⟨v, H', os, bare, un, hok', r', q⟩ := h
      have q' : v = .bl true := q
      subst q'
      obtain rfl : u = Value.bool true := r'
      refine ⟨rfl, OldK.of_keep ?_, os, bare⟩
      intro b o e
      cases q : H b with
      | none =>
        exact un.keep b o e q (fun y => absurd (show b ∈ ([] : List Addr) from y) List.not_mem_nil)
          List.not_mem_nil
      | some u =>
        rcases only b with y | ⟨ob, xs, y⟩
        · rw [q] at y
          cases y
        · obtain ⟨e1, _⟩ := hok b _ y
          obtain ⟨e2, _⟩ := hok' b _ (un.frzs b ob _ y)
          rw [e] at e1
          cases e1
          exact e2
  cases hk : K.lookup a with
  | some o =>
    have e := kin a o hk
    rw [ha] at e
    cases e
    refine core (fun _ => none) (fun _ => Or.inl rfl) (Or.inr ?_) ?_ (fun b y => absurd rfl y)
      (fun y => absurd rfl y)
    · refine ⟨_, vs.toArray, _, hk, rfl, rfl, rfl, ?_, ?_⟩
      · rw [List.size_toArray, lv]
        exact hl
      · simpa using rv
    · intro b u y
      have y' : (none : Option HO) = some u := y
      cases y'
  | none =>
    refine core (fun b => if b = a then
      some (.frz { cls := .type "list", data := .seq vs.toArray } (.lst (ns.map V.int)))
      else none) ?_ (Or.inl (Or.inr ⟨_, if_pos rfl⟩)) ?_ ?_ (fun _ => hk)
    · intro b
      by_cases q : b = a
      · exact Or.inr ⟨_, _, if_pos q⟩
      · exact Or.inl (if_neg q)
    · intro b u y
      by_cases q : b = a
      · have y' := (if_pos q).symm.trans y
        cases y'
        subst q
        refine ⟨ha, ?_, vs, _, rv, ha⟩
        rw [List.length_map]
        exact hl
      · have y' := (if_neg q).symm.trans y
        cases y'
    · intro b y
      by_cases q : b = a
      · exact q
      · exact absurd (if_neg q) y

/-- the end of a law row, the script's bits told -/
theorem walkG {l : PySem.W.OpenLaw} {n k : Nat} {q : Program} {loose : List Str}
    {XP : (Str → Option Value) → Heap → Prop} {YP : World → Heap → Prop} {d : DefRec}
    {K : Params → PySem.W.Frag} {sp : PySem.W.Frag → Sp} {x : Str} (hn : l.most = some n)
    (hn2 : n ≤ sizeLine) (hdf : d.params.defaults = []) (hr : Room k callerA)
    (hY : ∀ (w : World) (h : Heap), YP w h → (K w.params).In h)
    (F : ∀ (w : World) (mg : Str → Option Value) (fa : Addr) (h : Heap), (K w.params).In h →
      h.Ns mainGlobals mg → mg d.name = some (.ref fa) →
      ∃ fd : FuncData, (∀ (s : Shared) (u : Value), BindsTo s fd ⟨[u], []⟩ [(x, u)]) ∧
        ∀ base : Heap, (K w.params).In base → base.Ns mainGlobals mg →
          FnG l.prog w (K w.params) mg base k fa fd [x] (sp (K w.params)))
    (hsp : ∀ (K : PySem.W.Frag) (H : Hp) (a : Addr) (ns : List Int), ns.length ≤ n →
      (∀ z ∈ ns, Builtin.Int.intBits z ≤ 1048576) → Only H → SqL K H a (ns.map V.int) →
      sp K [.ref a] H (fun v _ => v = .bl true) fun _ _ _ => False) :
    PySem.W.WalkO q loose XP YP l.row.toRowW d [] (fun f vs => PySem.call f vs) := by
  refine Att.attach_callB hn hdf ?_
  intro w s0 s1 mg mb fa o pm cd doc a vs ns T Y ho hd hcd hmg hobj hints hlen hbits hg
  have kin := hY w _ Y
  obtain ⟨fd, hb, hF⟩ := F w mg fa _ kin T.T.g hmg
  exact lawG kin T.T.g T.T.b T.T.builtins T.T.nolimit hg hobj hints (Nat.le_trans hlen hn2)
    ⟨hr, rfl⟩ hF hb (fun H hO hS => hsp _ H a ns hlen hbits hO hS)
end G
namespace G
open PySem PySem.Spec PyProof.Rows L2

/-! ### repr of data -/

mutual
def cw : PyData → Nat
  | .none => 4
  | .bool _ => 5
  | .int _ => 1930
  | .str x => 10 * x.length + 4
  | .list xs => cws xs + 2
  | .tuple xs => cws xs + 2
  | .dict _ => 0
def cws : List PyData → Nat
  | [] => 0
  | x :: xs => cw x + 2 + cws xs
end
mutual
/-- it may be shown: ints of few bits, texts of plain signs, no dict -/
def shw : PyData → Bool
  | .none => true
  | .bool _ => true
  | .int i => decide (i.natAbs.log2 < 1920)
  | .str x => x.cps.toList.all fun c => decide (c < 16 ^ 8)
  | .list xs => shws xs
  | .tuple xs => shws xs
  | .dict _ => false
def shws : List PyData → Bool
  | [] => true
  | x :: xs => shw x && shws xs
end
theorem list_text (ts : List Str) : (listText ts).length ≤ piled ts + 2 := by
  unfold listText
  rw [strLen_append]
  have e1 : (("[" : Str)).length = 1 := by decide +kernel
  have e2 : (("]" : Str)).length = 1 := by decide +kernel
  cases ts with
  | nil =>
    show (("[" : Str)).length + (("]" : Str)).length ≤ _
    omega
  | cons t r =>
    have q := textFrom_length_pos r 1 (("[" : Str) ++ (if 0 > 0 then ", " else "" : String) ++ t) (by decide)
    have e3 : ((if 0 > 0 then ", " else "" : String) : Str).length = 0 := by decide +kernel
    have q2 : (textFrom 0 "[" (t :: r)).length = (("[" : Str) ++ (if 0 > 0 then ", " else "" : String) ++ t).length + piled r := q
    rw [q2, strLen_append, strLen_append, piled_cons]
    omega
mutual
theorem shown_len : ∀ d : PyData, shw d = true → d.shown.length ≤ cw d
  | .none, _ => by simp only [PyData.shown, cw]; decide +kernel
  | .bool b, _ => by cases b <;> (simp only [PyData.shown, cw]; decide +kernel)
  | .int i, h => by
    simp only [shw, decide_eq_true_eq] at h
    simp only [PyData.shown, cw]
    have q := int_text_length_le (a := i) (k := 1920) (by decide) h
    rw [PySem.ofString_length]
    omega
  | .str x, h => by
    simp only [shw, List.all_eq_true, decide_eq_true_eq] at h
    simp only [PyData.shown, cw]
    have q := StrLaws.reprText_len x h
    omega
  | .list xs, h => by
    simp only [shw] at h
    simp only [PyData.shown, cw]
    exact Nat.le_trans (list_text _) (Nat.add_le_add_right (shown_lens xs h) 2)
  | .tuple xs, h => by
    simp only [shw] at h
    simp only [PyData.shown, cw]
    exact Nat.le_trans (fmt_text _) (Nat.add_le_add_right (shown_lens xs h) 2)
  | .dict _, h => by simp only [shw] at h; cases h
theorem shown_lens : ∀ ds : List PyData, shws ds = true → piled (PyData.shownAll ds) ≤ cws ds
  | [], _ => Nat.zero_le _
  | d :: ds, h => by
    simp only [shws, Bool.and_eq_true] at h
    simp only [PyData.shownAll, cws, piled_cons]
    have q1 := shown_len d h.1
    have q2 := shown_lens ds h.2
    omega
end
mutual
theorem shw_showable : ∀ d : PyData, shw d = true → d.showable = true ∧ d.hasDict = false
  | .none, _ => ⟨rfl, rfl⟩
  | .bool _, _ => ⟨rfl, rfl⟩
  | .int i, h => ⟨by simpa only [shw, PyData.showable] using h, rfl⟩
  | .str x, _ => ⟨rfl, rfl⟩
  | .list xs, h => by
    simp only [shw] at h
    simpa only [PyData.showable, PyData.hasDict] using shws_showable xs h
  | .tuple xs, h => by
    simp only [shw] at h
    simpa only [PyData.showable, PyData.hasDict] using shws_showable xs h
  | .dict _, h => by simp only [shw] at h; cases h
theorem shws_showable : ∀ ds : List PyData, shws ds = true →
    PyData.showableAll ds = true ∧ PyData.hasDictAll ds = false
  | [], _ => ⟨rfl, rfl⟩
  | d :: ds, h => by
    simp only [shws, Bool.and_eq_true] at h
    obtain ⟨a, b⟩ := shw_showable d h.1
    obtain ⟨e, f⟩ := shws_showable ds h.2
    simp only [PyData.showableAll, PyData.hasDictAll, a, b, e, f]
    exact ⟨rfl, rfl⟩
end
/-- repr(x), x data -/
def rRepr (K : PySem.W.Frag) : List V → Hp → VK → Prop := fun xs H Q =>
  ∃ x d, xs = [x] ∧ Dp K H x d ∧ shw d = true ∧ d.depth ≤ 60 ∧ cw d ≤ sizeLine ∧ Q (.str d.shown) H
theorem call_repr {X : Cx} (hg : X.A.guards = some []) (hu : X.A.units + 64 < cLine) :
    CallR X (.builtin "repr") (rRepr X.K) := by
  intro pins s σ H vs us Q I rv h
  obtain ⟨x, d, rfl, hd, hs, hdp, hz, q⟩ := h
  obtain ⟨hs1, hs2⟩ := shw_showable d hs
  have hz2 := Nat.le_trans (shown_len d hs) hz
  cases rv with
  | cons r rn =>
    cases rn
    obtain ⟨as, hr⟩ := Dp.reads I d _ _ hd r
    cases hr with
    | none => exact PySem.P.repr_of_none ⟨.str _, H, I.tok _, ⟨_, rfl⟩, q⟩
    | bool b => exact PySem.P.repr_of_bool ⟨.str _, H, I.tok _, ⟨_, rfl⟩, q⟩
    | int i t =>
      refine PySem.P.repr_of_int ?_ ⟨.str _, H, I.tok _, ⟨_, rfl⟩, q⟩
      first | exact hs | simpa only [shw, decide_eq_true_eq] using hs
    | str y t => exact PySem.P.repr_of_str ⟨.str _, H, I.tok _, ⟨_, rfl⟩, q⟩ hz2
    | list h1 h2 h3 h4 =>
      refine repr_of_reads' (Reads.list h1 h2 h3 h4) hs1 (fun y => by rw [hs2] at y; cases y) hg
        (by omega) (fun _ _ e => e) (fun h' u tk hk => ?_) hz2
      exact ⟨.str _, H, I.kept hk, ⟨_, rfl⟩, q⟩
    | tuple h1 h2 h3 h4 =>
      refine repr_of_reads' (Reads.tuple h1 h2 h3 h4) hs1 (fun y => by rw [hs2] at y; cases y) hg
        (by omega) (fun _ _ e => e) (fun h' u tk hk => ?_) hz2
      exact ⟨.str _, H, I.kept hk, ⟨_, rfl⟩, q⟩
    | dict h1 h2 h3 h4 h5 => simp only [PyData.hasDict] at hs2; cases hs2
end G
namespace G
open PySem PySem.Spec PyProof.Rows L2

/-! ### heaps: what is kept -/
/-- x is not yet tracked -/
structure Fr (H : Hp) (x : Addr) : Prop where
  e : H x = none
theorem fr_ne {H : Hp} {a b : Addr} {o : HO} (h : H a = some o) (f : Fr H b) : a ≠ b := ne_of_none h f.e
/-- what nothing changes -/
def Fix : HO → Prop
  | .tup _ => True
  | .frz _ _ => True
  | _ => False
/-- all that H tracks is as it was, but perhaps what stands at ws -/
structure Kp (ws : List Addr) (H H' : Hp) : Prop where
  at_ : ∀ a u, H a = some u → a ∉ ws → H' a = some u
  fix : ∀ a u, H a = some u → Fix u → H' a = some u
  dom : ∀ a u, H a = some u → ∃ v, H' a = some v
section
variable {ws us : List Addr} {H H1 H2 : Hp} {p : Addr} {o u : HO}
theorem Kp.refl : Kp ws H H := ⟨fun _ _ h _ => h, fun _ _ h _ => h, fun _ u h => ⟨u, h⟩⟩
theorem Kp.trans (a : Kp ws H H1) (b : Kp ws H1 H2) : Kp ws H H2 :=
  ⟨fun c u h n => b.at_ c u (a.at_ c u h n) n, fun c u h f => b.fix c u (a.fix c u h f) f,
    fun c u h => let ⟨v, e⟩ := a.dom c u h; b.dom c v e⟩
theorem Kp.mono (a : Kp ws H H1) (h : ∀ b ∈ ws, b ∈ us) : Kp us H H1 :=
  ⟨fun c u e n => a.at_ c u e fun q => n (h c q), a.fix, a.dom⟩
theorem Kp.wide (a : Kp [] H H1) : Kp ws H H1 := a.mono fun b h => (nomatch h)
theorem Kp.free (a : Kp ws H H1) (f : Fr H1 p) : Fr H p := by
  have h := f.e
  constructor
  cases q : H p with
  | none => rfl
  | some u =>
    obtain ⟨v, e⟩ := a.dom p u q
    rw [h] at e
    cases e
theorem Kp.new (f : Fr H p) : Kp ws H (upd H p o) := by
  have h := f.e
  have k : ∀ a u, H a = some u → upd H p o a = some u := fun a u e => by
    rw [upd_ne (ne_of_none e h)]
    exact e
  exact ⟨fun a u e _ => k a u e, fun a u e _ => k a u e, fun a u e => ⟨u, k a u e⟩⟩
/-- what H does not know may be written -/
theorem Kp.upd (a : Kp ws H H1) (f : Fr H p) : Kp ws H (upd H1 p o) := by
  have h := f.e
  have k : ∀ b u, H b = some u → L2.upd H1 p o b = H1 b := fun b u e => upd_ne (ne_of_none e h)
  exact ⟨fun b u e n => (k b u e).trans (a.at_ b u e n), fun b u e f => (k b u e).trans (a.fix b u e f),
    fun b u e => let ⟨v, q⟩ := a.dom b u e; ⟨v, (k b u e).trans q⟩⟩
theorem Kp.mut (h : H p = some u) (nf : ¬ Fix u) (hp : p ∈ ws) : Kp ws H (L2.upd H p o) := by
  refine ⟨fun a v e n => ?_, fun a v e f => ?_, fun a v e => ?_⟩
  · rw [upd_ne (fun (q : a = p) => n (by rw [q]; exact hp))]
    exact e
  · have q : a ≠ p := by
      intro q
      subst q
      rw [h] at e
      cases e
      exact nf f
    rw [upd_ne q]
    exact e
  · by_cases q : a = p
    · exact ⟨o, by rw [q, upd_same]⟩
    · exact ⟨v, by rw [upd_ne q]; exact e⟩
theorem Kp.upm {ys : List V} (a : Kp ws H H1) (h : H1 p = some (.lst ys)) (hp : p ∈ ws) :
    Kp ws H (L2.upd H1 p o) := a.trans (Kp.mut h (fun z => z) hp)
/-- what H does not know need not be named -/
theorem Kp.drop (a : Kp (p :: ws) H H1) (f : Fr H p) : Kp ws H H1 :=
  have h := f.e
  ⟨fun b u e n => a.at_ b u e (fun q => (List.mem_cons.mp q).elim (fun z => by
    rw [z, h] at e
    cases e) n), a.fix, a.dom⟩
theorem Kp.dropAll (a : Kp us H H1) (h : ∀ b ∈ us, b ∈ ws ∨ Fr H b) : Kp ws H H1 :=
  ⟨fun b u e n => a.at_ b u e (fun q => (h b q).elim n (fun z => by
    rw [z.e] at e
    cases e)), a.fix, a.dom⟩
theorem Kp.seqL {K : PySem.W.Frag} {l : Addr} {xs : List V} (a : Kp ws H H1) (n : l ∉ ws)
    (h : SqL K H l xs) : SqL K H1 l xs := by
  rcases h with (h | ⟨o, h⟩) | h
  · exact .inl (.inl (a.at_ _ _ h n))
  · exact .inl (.inr ⟨o, a.fix _ _ h trivial⟩)
  · exact .inr h
theorem Kp.seqT {K : PySem.W.Frag} {l : Addr} {xs : List V} (a : Kp ws H H1)
    (h : SqT K H l xs) : SqT K H1 l xs := by
  rcases h with (h | ⟨o, h⟩) | h
  · exact .inl (.inl (a.fix _ _ h trivial))
  · exact .inl (.inr ⟨o, a.fix _ _ h trivial⟩)
  · exact .inr h
end
mutual
/-- data that nothing changes: no list, no dict -/
def imm : PyData → Bool
  | .none => true
  | .bool _ => true
  | .int _ => true
  | .str _ => true
  | .tuple xs => imms xs
  | .list _ => false
  | .dict _ => false
def imms : List PyData → Bool
  | [] => true
  | x :: xs => imm x && imms xs
end
section
variable {K : PySem.W.Frag} {ws : List Addr} {H H1 : Hp}
mutual
theorem dp_imm (k : Kp ws H H1) : ∀ (d : PyData) (v : V), imm d = true → Dp K H v d → Dp K H1 v d
  | .none, _, _, h => by cases h; exact .non
  | .bool b, _, _, h => by cases h; exact .bl b
  | .int i, _, _, h => by cases h; exact .int i
  | .str x, _, _, h => by cases h; exact .str x
  | .tuple ds, _, hi, h => by
    cases h with
    | tup hs ha => exact .tup (k.seqT hs) (dpa_imm k ds _ (by simpa only [G.imm] using hi) ha)
  | .list _, _, hi, _ => by simp only [G.imm] at hi; cases hi
  | .dict _, _, hi, _ => by simp only [G.imm] at hi; cases hi
theorem dpa_imm (k : Kp ws H H1) : ∀ (ds : List PyData) (vs : List V), imms ds = true →
    DpAll K H vs ds → DpAll K H1 vs ds
  | [], _, _, h => by cases h; exact .nil
  | d :: ds, _, hi, h => by
    simp only [imms, Bool.and_eq_true] at hi
    cases h with
    | cons h1 h2 => exact .cons (dp_imm k d _ hi.1 h1) (dpa_imm k ds _ hi.2 h2)
end
theorem dpa_len : ∀ {ds : List PyData} {vs : List V}, DpAll K H vs ds → vs.length = ds.length
  | [], _, h => by cases h; rfl
  | _ :: ds, _, h => by
    cases h with
    | cons _ h2 => rw [List.length_cons, List.length_cons, dpa_len h2]
theorem dpa_app : ∀ {ds es : List PyData} {vs ys : List V}, DpAll K H vs ds → DpAll K H ys es →
    DpAll K H (vs ++ ys) (ds ++ es)
  | [], _, _, _, h, g => by cases h; exact g
  | _ :: _, _, _, _, h, g => by
    cases h with
    | cons h1 h2 => exact .cons h1 (dpa_app h2 g)
theorem dpa_get : ∀ {ds : List PyData} {vs : List V} {i : Nat} {d : PyData}, DpAll K H vs ds →
    ds[i]? = some d → ∃ v, vs[i]? = some v ∧ Dp K H v d
  | [], _, _, _, _, e => by simp at e
  | _ :: _, _, 0, _, h, e => by
    cases h with
    | cons h1 h2 =>
      simp at e
      subst e
      exact ⟨_, rfl, h1⟩
  | _ :: _, _, i + 1, _, h, e => by
    cases h with
    | cons h1 h2 =>
      obtain ⟨v, q, r⟩ := dpa_get (i := i) h2 (by simpa using e)
      exact ⟨v, by simpa using q, r⟩
theorem dpa_getV : ∀ {ds : List PyData} {vs : List V} {i : Nat} {v : V}, DpAll K H vs ds →
    vs[i]? = some v → ∃ d, ds[i]? = some d ∧ Dp K H v d
  | [], _, _, _, h, e => by cases h; simp at e
  | _ :: _, _, 0, _, h, e => by
    cases h with
    | cons h1 h2 =>
      simp at e
      subst e
      exact ⟨_, rfl, h1⟩
  | _ :: _, _, i + 1, _, h, e => by
    cases h with
    | cons h1 h2 =>
      obtain ⟨d, q, r⟩ := dpa_getV (i := i) h2 (by simpa using e)
      exact ⟨d, by simpa using q, r⟩
theorem dpa_set : ∀ {ds : List PyData} {vs : List V} {i : Nat} {v : V} {d : PyData},
    DpAll K H vs ds → Dp K H v d → DpAll K H (vs.set i v) (ds.set i d)
  | [], _, _, _, _, h, _ => by cases h; exact .nil
  | _ :: _, _, 0, _, _, h, g => by
    cases h with
    | cons h1 h2 => exact .cons g h2
  | _ :: _, _, i + 1, _, _, h, g => by
    cases h with
    | cons h1 h2 => exact .cons h1 (dpa_set h2 g)
theorem dpa_take : ∀ {ds : List PyData} {vs : List V} (i : Nat),
    DpAll K H vs ds → DpAll K H (vs.take i) (ds.take i)
  | [], _, _, h => by cases h; simp; exact .nil
  | _ :: _, _, 0, h => by simp; exact .nil
  | _ :: _, _, i + 1, h => by
    cases h with
    | cons h1 h2 => exact .cons h1 (dpa_take i h2)
theorem dpa_drop : ∀ {ds : List PyData} {vs : List V} (i : Nat),
    DpAll K H vs ds → DpAll K H (vs.drop i) (ds.drop i)
  | [], _, _, h => by cases h; simp; exact .nil
  | _ :: _, _, 0, h => by simpa using h
  | _ :: _, _, i + 1, h => by
    cases h with
    | cons h1 h2 => exact dpa_drop i h2
theorem dpa_one {v : V} {d : PyData} (h : Dp K H v d) : DpAll K H [v] [d] := .cons h .nil
/-- a tuple of two ints -/
abbrev d2 (p : Int × Int) : PyData := .tuple [.int p.1, .int p.2]
theorem dp_pair {v : V} {p : Int × Int} (h : Dp K H v (d2 p)) :
    ∃ a, v = .ref a ∧ SqT K H a [.int p.1, .int p.2] := by
  cases h with
  | tup hs ha =>
    cases ha with
    | cons h1 h2 =>
      cases h2 with
      | cons h3 h4 =>
        cases h4
        cases h1
        cases h3
        exact ⟨_, rfl, hs⟩
theorem dp_mk2 {a : Addr} {m n : Int} (h : SqT K H a [.int m, .int n]) :
    Dp K H (.ref a) (d2 (m, n)) := .tup h (.cons (.int m) (.cons (.int n) .nil))
theorem imms_d2 : ∀ l : List (Int × Int), imms (l.map d2) = true
  | [] => rfl
  | _ :: l => by
    simp only [List.map_cons, imms, G.imm, imms_d2 l]
    rfl
/-- a list of our own, of data that nothing changes -/
def LD (K : PySem.W.Frag) (H : Hp) (l : Addr) (ds : List PyData) : Prop :=
  ∃ vs, H l = some (.lst vs) ∧ DpAll K H vs ds
theorem LD.dp {l : Addr} {ds : List PyData} (h : LD K H l ds) : Dp K H (.ref l) (.list ds) := by
  obtain ⟨vs, e, q⟩ := h
  exact .lst (SqL.of e) q
theorem LD.kp {l : Addr} {ds : List PyData} (h : LD K H l ds) (k : Kp ws H H1) (hi : imms ds = true)
    (n : l ∉ ws) : LD K H1 l ds := by
  obtain ⟨vs, e, q⟩ := h
  exact ⟨vs, k.at_ _ _ e n, dpa_imm k _ _ hi q⟩
theorem LD.some {l : Addr} {ds : List PyData} (h : LD K H l ds) : H l ≠ none := by
  obtain ⟨vs, e, q⟩ := h
  rw [e]
  exact fun y => nomatch y
end
end G
namespace G
open PySem PySem.Spec PyProof.Rows L2

/-! ### one rule for several kinds of values -/
theorem orR {X : Cx} {f : Value → Value → Sem Value} {r r' : R2} (h : OpR X f r) (h' : OpR X f r') :
    OpR X f (fun x y H Q => r x y H Q ∨ r' x y H Q) := by
  intro pins s σ H x y v u Q I rx ry q
  cases q with
  | inl q => exact h pins s σ H x y v u Q I rx ry q
  | inr q => exact h' pins s σ H x y v u Q I rx ry q
theorem orC {X : Cx} {f : Value} {r r' : List V → Hp → VK → Prop} (h : CallR X f r)
    (h' : CallR X f r') : CallR X f (fun xs H Q => r xs H Q ∨ r' xs H Q) := by
  intro pins s σ H xs us Q I rx q
  cases q with
  | inl q => exact h pins s σ H xs us Q I rx q
  | inr q => exact h' pins s σ H xs us Q I rx q
def uAdd (K : PySem.W.Frag) : R2 := fun x y H Q => rI0 (fun i j => .int (i + j)) x y H Q ∨
  (∃ i j, x = .str i ∧ y = .str j ∧ i.length + j.length ≤ sizeLine ∧ Q (.str (i ++ j)) H) ∨
  rCat x y H Q ∨ rCatT K x y H Q
def uMul : R2 := fun x y H Q => rI CMul (fun i j => .int (i * j)) x y H Q ∨
  rI CMulW (fun i j => .int (i * j)) x y H Q ∨ rRep x y H Q
def uEq (K : PySem.W.Frag) : R2 := fun x y H Q => rEq x y H Q ∨ rEqD K x y H Q
def uNe (K : PySem.W.Frag) : R2 := fun x y H Q => rNe x y H Q ∨ rNeD K x y H Q
def uIx (K : PySem.W.Frag) : R2 := fun x y H Q => rIxL K x y H Q ∨ rIxT K x y H Q ∨ rIxS x y H Q
def uLen (K : PySem.W.Frag) : List V → Hp → VK → Prop := fun xs H Q =>
  (∃ p ys, xs = [.ref p] ∧ (SqL K H p ys ∨ SqT K H p ys) ∧ Q (.int ys.length) H) ∨
  (∃ z, xs = [.str z] ∧ z.length ≤ sizeLine ∧ Q (.int z.length) H)
section
variable {X : Cx}
theorem o_add : OpR X (binaryOp .Add) (uAdd X.K) := orR op_add (orR op_add_str (orR op_cat op_catT))
theorem o_mul : OpR X (binaryOp .Mult) uMul := orR op_mul (orR op_mulW op_rep)
theorem o_eq (hu : X.A.units + 64 < cLine) : OpR X (compareOp .Eq) (uEq X.K) := orR op_eq (op_eqD hu)
theorem o_ne (hu : X.A.units + 64 < cLine) : OpR X (compareOp .NotEq) (uNe X.K) := orR op_ne (op_neD hu)
theorem o_ix : IxR X (uIx X.K) := ix_list.or (ix_tup.or ix_str)
theorem c_len : CallR X (.builtin "len") (uLen X.K) := orC call_len_seq call_len_str
end

/-! ### readings from the front -/
section
variable {K : PySem.W.Frag} {σ : L2.St} {H : Hp} {Q : VK} {D : Ends} {t1 t2 : TS} {te ta tb tc : TE}
variable {i j : Nat} {v x y : V} {c u : TT} {tr : TA} {n m : Int} {b : Bool} {p : Addr}
variable {QB : Bool → Hp → Prop} {QA : List V → Hp → Prop} {xs : List V}
theorem i_seq (h : t1 { D with nx := t2 D } σ H) : tSeq t1 t2 D σ H := h
theorem i_next (h : D.nx σ H) : tNext D σ H := h
theorem i_set (h : te σ H fun x H1 => D.nx (σ.set i (some x)) H1) : tAsg te (gName i) D σ H := h
theorem i_asg {g : TG} (h : te σ H fun x H1 => g x σ H1 D.nx) : tAsg te g D σ H := h
theorem i_drop (h : te σ H fun _ H1 => D.nx σ H1) : tDrop te D σ H := h
theorem i_ret (h : te σ H D.rt) : tRet te D σ H := h
theorem i_retN (h : D.rt .non H) : tRetN D σ H := h
theorem i_brk (h : D.bk σ H) : tBreak D σ H := h
theorem i_cont (h : D.ct σ H) : tCont D σ H := h
theorem i_ifS (h : c σ H fun b H1 => if b = true then t1 D σ H1 else t2 D σ H1) : tIfS c t1 t2 D σ H := h
theorem i_aug {ti : TIp} (e : σ[i]? = some (some x))
    (h : te σ H fun y H1 => ti x y H1 fun z H2 => D.nx (σ.set i (some z)) H2) : tAug i te ti D σ H := ⟨x, e, h⟩
theorem i_ipI {f : Int → Int → Int} (h : Q (.int (f n m)) H) : ipI f (.int n) (.int m) H Q := ⟨n, m, rfl, rfl, h⟩
theorem i_par {i j : Nat} {tt : TA}
    (h : tt σ H fun vs H1 => ∃ v w, vs = [v, w] ∧ D.nx ((σ.set i (some v)).set j (some w)) H1) :
    tPar i j tt D σ H := h
theorem i_two {P : V → V → Prop} (h : P x y) : ∃ v w, [x, y] = [v, w] ∧ P v w := ⟨x, y, rfl, h⟩

theorem i_var (e : σ[i]? = some (some v)) (h : Q v H) : tVar i σ H Q := ⟨v, e, h⟩
theorem i_c (h : Q v H) : tC v σ H Q := h
theorem i_op {r : R2} (h : ta σ H fun x H1 => tb σ H1 fun y H2 => r x y H2 Q) : tOp r ta tb σ H Q := h
theorem i_un {r : V → Hp → VK → Prop} (h : ta σ H fun x H1 => r x H1 Q) : tUn r ta σ H Q := h
theorem i_I0 {g : Int → Int → V} (h : Q (g n m) H) : rI0 g (.int n) (.int m) H Q := ⟨n, m, rfl, rfl, h⟩
theorem i_I {g : Int → Int → V} {C : Int → Int → Prop} (hc : C n m) (h : Q (g n m) H) :
    rI C g (.int n) (.int m) H Q := ⟨n, m, rfl, rfl, hc, h⟩
theorem i_U {g : Int → V} (h : Q (g n) H) : rU g (.int n) H Q := ⟨n, rfl, h⟩
theorem i_addI (h : Q (.int (n + m)) H) : uAdd K (.int n) (.int m) H Q := .inl ⟨n, m, rfl, rfl, h⟩
theorem i_addS {z w : Str} (hz : z.length + w.length ≤ sizeLine) (h : Q (.str (z ++ w)) H) :
    uAdd K (.str z) (.str w) H Q := .inr (.inl ⟨z, w, rfl, rfl, hz, h⟩)
theorem i_mulI (hc : CMul n m) (h : Q (.int (n * m)) H) : uMul (.int n) (.int m) H Q :=
  .inl ⟨n, m, rfl, rfl, hc, h⟩
theorem i_mulW (hc : CMulW n m) (h : Q (.int (n * m)) H) : uMul (.int n) (.int m) H Q :=
  .inr (.inl ⟨n, m, rfl, rfl, hc, h⟩)
theorem i_eqI (h : Q (.bl (decide (n = m))) H) : uEq K (.int n) (.int m) H Q := by
  refine .inl ⟨rfl, ?_⟩
  have e : decide (V.int n = V.int m) = decide (n = m) := by
    rw [Bool.eq_iff_iff]
    simp
  rw [e]
  exact h
theorem i_neI (h : Q (.bl (!decide (n = m))) H) : uNe K (.int n) (.int m) H Q := by
  refine .inl ⟨rfl, ?_⟩
  have e : decide (V.int n = V.int m) = decide (n = m) := by
    rw [Bool.eq_iff_iff]
    simp
  rw [e]
  exact h
theorem i_eqS {z w : Str} (h : Q (.bl (decide (z = w))) H) : uEq K (.str z) (.str w) H Q := by
  refine .inl ⟨rfl, ?_⟩
  have e : decide (V.str z = V.str w) = decide (z = w) := by
    rw [Bool.eq_iff_iff]
    simp
  rw [e]
  exact h
theorem i_neS {z w : Str} (h : Q (.bl (!decide (z = w))) H) : uNe K (.str z) (.str w) H Q := by
  refine .inl ⟨rfl, ?_⟩
  have e : decide (V.str z = V.str w) = decide (z = w) := by
    rw [Bool.eq_iff_iff]
    simp
  rw [e]
  exact h
theorem i_eqD {d e : PyData} (hd : Dp K H x d) (he : Dp K H y e) (sd : SeqAt.shaped d = true)
    (se : SeqAt.shaped e = true) (h : Q (.bl (PyData.eqv d e)) H) : uEq K x y H Q :=
  .inr ⟨d, e, hd, he, sd, se, h⟩
theorem i_neD {d e : PyData} (hd : Dp K H x d) (he : Dp K H y e) (sd : SeqAt.shaped d = true)
    (se : SeqAt.shaped e = true) (h : Q (.bl (!PyData.eqv d e)) H) : uNe K x y H Q :=
  .inr ⟨d, e, hd, he, sd, se, h⟩
theorem i_ixL (hs : SqL K H p xs) (ha : atI xs n = some v) (h : Q v H) :
    uIx K (.ref p) (.int n) H Q := .inl ⟨p, xs, n, v, rfl, rfl, hs, ha, h⟩
theorem i_ixT (hs : SqT K H p xs) (ha : atI xs n = some v) (h : Q v H) :
    uIx K (.ref p) (.int n) H Q := .inr (.inl ⟨p, xs, n, v, rfl, rfl, hs, ha, h⟩)
theorem i_lenL (hs : SqL K H p xs) (h : Q (.int xs.length) H) : uLen K [.ref p] H Q :=
  .inl ⟨p, xs, rfl, .inl hs, h⟩
theorem i_lenT (hs : SqT K H p xs) (h : Q (.int xs.length) H) : uLen K [.ref p] H Q :=
  .inl ⟨p, xs, rfl, .inr hs, h⟩
theorem i_lenS {z : Str} (hz : z.length ≤ sizeLine) (h : Q (.int z.length) H) : uLen K [.str z] H Q :=
  .inr ⟨z, rfl, hz, h⟩

theorem i_test (h : te σ H fun x H1 => ∃ k, x = .bl k ∧ QB k H1) : tTest te σ H QB := h
theorem i_B (h : te σ H fun x H1 => ∃ k, x = .bl k ∧ QB k H1) : tB te σ H QB := h
theorem i_bl {P : Bool → Prop} (h : P b) : ∃ k, V.bl b = .bl k ∧ P k := ⟨b, rfl, h⟩
theorem i_and (h : c σ H fun b H1 => if b = true then u σ H1 QB else QB false H1) : tAnd c u σ H QB := h
theorem i_or (h : c σ H fun b H1 => if b = true then QB true H1 else u σ H1 QB) : tOr c u σ H QB := h
theorem i_not (h : c σ H fun b H1 => QB (!b) H1) : tNot c σ H QB := h
theorem i_andV (h : ta σ H fun x H1 => ∃ k, x = .bl k ∧ if k = true then tb σ H1 Q else Q (.bl false) H1) :
    tAndV ta tb σ H Q := h
theorem i_orV (h : ta σ H fun x H1 => ∃ k, x = .bl k ∧ if k = true then Q (.bl true) H1 else tb σ H1 Q) :
    tOrV ta tb σ H Q := h
theorem i_notV (h : ta σ H fun x H1 => ∃ k, x = .bl k ∧ Q (.bl (!k)) H1) : tNotV ta σ H Q := h
theorem i_ifE (h : c σ H fun b H1 => if b = true then ta σ H1 Q else tb σ H1 Q) : tIf c ta tb σ H Q := h
theorem i_chain {r r' : R2} (h : ta σ H fun x H1 => tb σ H1 fun y H2 => r x y H2 fun z H3 =>
    ∃ k, z = .bl k ∧ if k = true then tc σ H3 fun w H4 => r' y w H4 Q else Q (.bl false) H3) :
    tChain r r' ta tb tc σ H Q := h
theorem i_nil (h : QA [] H) : tNil σ H QA := h
theorem i_cons (h : te σ H fun x H1 => tr σ H1 fun xs H2 => QA (x :: xs) H2) : tCons te tr σ H QA := h
/-- for any new place -/
def New (H : Hp) (P : Addr → Prop) : Prop := ∀ p, H p = none → P p
theorem i_new {P : Addr → Prop} (h : ∀ p, Fr H p → P p) : New H P := fun p e => h p ⟨e⟩
theorem i_tup (h : tr σ H fun xs H1 => xs.length ≤ sizeLine ∧ New H1 fun p => Q (.ref p) (upd H1 p (.tup xs))) :
    tTup tr σ H Q := h
theorem i_lst (h : tr σ H fun xs H1 => xs.length ≤ sizeLine ∧ New H1 fun p => Q (.ref p) (upd H1 p (.lst xs))) :
    tLst tr σ H Q := h
theorem i_few {P : Prop} {n : Nat} (hn : n ≤ 1000) (h : P) : n ≤ sizeLine ∧ P :=
  ⟨Nat.le_trans hn (by decide), h⟩
theorem i_CB {r : List V → Hp → VK → Prop} (h : tr σ H fun vs H1 => r vs H1 Q) : tCB r tr σ H Q := h
theorem i_call {sp : Sp} {dvs : List V} {E : XK} (h : tr σ H fun vs H1 => sp (vs ++ dvs) H1 Q E) :
    tCall sp dvs E tr σ H Q := h
theorem i_BM {T : String} {r : V → List V → Hp → VK → Prop}
    (h : te σ H fun x H1 => tyV K T x H1 ∧ tr σ H1 fun xs H2 => r x xs H2 Q) : tBM K T r te tr σ H Q := h
theorem i_BM0 {T : String} {r : V → List V → Hp → VK → Prop}
    (h : te σ H fun x H1 => tyV K T x H1 ∧ r x [] H1 Q) : tBM0 K T r te σ H Q := h
theorem i_tyL {P : Prop} (hs : SqL K H p xs) (h : P) : tyV K "list" (.ref p) H ∧ P :=
  ⟨.inl ⟨rfl, xs, hs⟩, h⟩
theorem i_app (hs : H p = some (.lst xs)) (hz : xs.length < sizeLine)
    (h : Q .non (upd H p (.lst (xs ++ [y])))) : rAppend (.ref p) [y] H Q := ⟨p, xs, y, rfl, rfl, hs, hz, h⟩
theorem i_repr {d : PyData} (hd : Dp K H x d) (hs : shw d = true) (hdp : d.depth ≤ 60)
    (hz : cw d ≤ sizeLine) (h : Q (.str d.shown) H) : rRepr K [x] H Q := ⟨x, d, rfl, hd, hs, hdp, hz, h⟩
theorem i_setL {S : Hp → Prop} {k : Nat} (hs : H p = some (.lst xs)) (hj : ixN xs.length n = some k)
    (h : S (upd H p (.lst (xs.set k v)))) : rSetL (.ref p) (.int n) v H S := ⟨p, xs, n, k, rfl, rfl, hs, hj, h⟩
theorem i_iList {R : It → Hp → Prop} (h : te σ H fun x H1 => ∃ a, x = .ref a ∧ (∃ xs, SqL K H1 a xs) ∧ R (Itl K a) H1) :
    iList K te σ H R := h
theorem i_For {wi : TI} {g : TG} (h : wi σ H fun J H1 => ∃ W : Nat → Nat → L2.St → Hp → Prop, (∃ m, W 0 m σ H1) ∧ ∀ i m σ H, W i m σ H →
    (J.stop i H ∧ D.nx σ H) ∨ (J.go i H ∧ ∃ Nx : L2.St → Hp → Prop, (∀ σ' H', Nx σ' H' → ∃ m', m' < m ∧ W (i + 1) m' σ' H') ∧
      ∀ x H', J.yld i H x H' → g x σ H' fun σ2 H2 => t1 { D with nx := Nx, ct := Nx, bk := D.nx } σ2 H2)) :
    tFor wi g t1 D σ H := h
theorem i_iteT {A B : Prop} (h : A) : if true = true then A else B := iteT h
theorem i_iteF {A B : Prop} (h : B) : if false = true then A else B := iteF h
theorem i_ntT {A B : Prop} (h : B) : if (!true) = true then A else B := iteF h
theorem i_ntF {A B : Prop} (h : A) : if (!false) = true then A else B := iteT h
theorem i_dec {p A B : Prop} [Decidable p] (h1 : p → A) (h2 : ¬ p → B) :
    if decide p = true then A else B := by
  by_cases h : p
  · rw [decide_eq_true h]
    exact iteT (h1 h)
  · rw [decide_eq_false h]
    exact iteF (h2 h)
theorem i_decN {p A B : Prop} [Decidable p] (h1 : ¬ p → A) (h2 : p → B) :
    if (!decide p) = true then A else B := by
  by_cases h : p
  · rw [decide_eq_true h]
    exact iteF (h2 h)
  · rw [decide_eq_false h]
    exact iteT (h1 h)
theorem i_boo {b : Bool} {A B : Prop} (h1 : b = true → A) (h2 : b = false → B) :
    if b = true then A else B := by
  cases b
  · exact iteF (h2 rfl)
  · exact iteT (h1 rfl)
end
section
variable {P : Program} {w : World} {K : PySem.W.Frag} {mg : Str → Option Value} {base : Heap}
/-- a def of the text, by its body -/
theorem okG {x qual : Str} {st : Stmt} {f : Addr} {fd : FuncData} {N ps : List Str} {k : Nat} {sp : Sp}
    (F : L2.Fun K x qual st f fd) (S : FnScope N ps (defScope st))
    (len : ∀ vs H Q E, sp vs H Q E → vs.length = ps.length)
    (hb : ∀ (cdv : Value) (A : Around) (outer : List Env) (s : Shared) (H : Hp) (vs : List V)
      (Q : VK) (E : XK), RoomG k (A.deeper (envOfC qual (defScope st) s.heap.objs.size f cdv)) →
      sp vs H Q E →
      ∃ t, PSs (cxOf (L2.CX P w) P w K mg base N qual (defScope st) f cdv A outer s H E) (defBody st) t ∧
        t { nx := fun _ H' => Q .non H', rt := Q } (start N vs) H) :
    FnG P w K mg base (k + 1) f fd ps sp := by
  obtain ⟨oc, od, kV, doc, pm, an, cdv, ct, osl, rfl, lk, hcd⟩ := F.ex
  exact FnG.body lk hcd S len fun A outer s H vs Q E z h => hb cdv A outer s H vs Q E z h
end
end G
namespace G
open PySem PySem.Spec PyProof.Rows L2
section
variable {K : PySem.W.Frag} {σ : L2.St} {H : Hp} {Q : VK} {D : Ends} {tb : TS} {te : TE} {g : TG}
variable {a p q l : Addr} {xs vs : List V} {v x y : V} {ds : List PyData} {S : L2.St → Hp → Prop}
theorem st_1 {N : List Str} {a : V} : L2.start N [a] = some a :: List.replicate (N.length - 1) none := rfl
theorem st_2 {N : List Str} {a b : V} : L2.start N [a, b] = some a :: some b :: List.replicate (N.length - 2) none := rfl
theorem st_3 {N : List Str} {a b c : V} :
    L2.start N [a, b, c] = some a :: some b :: some c :: List.replicate (N.length - 3) none := rfl
theorem st_4 {N : List Str} {a b c d : V} : L2.start N [a, b, c, d] =
    some a :: some b :: some c :: some d :: List.replicate (N.length - 4) none := rfl
theorem st_5 {N : List Str} {a b c d e : V} : L2.start N [a, b, c, d, e] =
    some a :: some b :: some c :: some d :: some e :: List.replicate (N.length - 5) none := rfl
theorem st_6 {N : List Str} {a b c d e f : V} : L2.start N [a, b, c, d, e, f] =
    some a :: some b :: some c :: some d :: some e :: some f :: List.replicate (N.length - 6) none := rfl
theorem i_gTup {n : Nat} {t : TGs} (hs : SqT K H p xs) (hl : xs.length = n) (h : t xs σ H S) :
    gTup K n t (.ref p) σ H S := ⟨p, xs, rfl, hs, hl, h⟩
theorem i_gCons {t : TG} {u : TGs} (h : t v σ H fun σ' H' => u xs σ' H' S) :
    gCons t u (v :: xs) σ H S := ⟨v, xs, rfl, h⟩
theorem i_gNil (h : S σ H) : gNil [] σ H S := ⟨rfl, h⟩
theorem i_gName {i : Nat} (h : S (σ.set i (some v)) H) : gName i v σ H S := h
theorem i_gSub {to ti : TE} {t : TSet} (h : to σ H fun o H1 => ti σ H1 fun i H2 => t o i v H2 fun H3 => S σ H3) :
    gSub to ti t v σ H S := h
/-- a for over x, a list -/
def ForL (K : PySem.W.Frag) (x : V) (g : TG) (tb : TS) (D : Ends) (σ : L2.St) (H : Hp) : Prop :=
  ∃ a, x = .ref a ∧ (∃ ys, SqL K H a ys) ∧ ∃ W : Nat → Nat → L2.St → Hp → Prop,
    (∃ m, W 0 m σ H) ∧ ∀ i m σ H, W i m σ H → ((Itl K a).stop i H ∧ D.nx σ H) ∨
      ((Itl K a).go i H ∧ ∃ Nx : L2.St → Hp → Prop,
        (∀ σ' H', Nx σ' H' → ∃ m', m' < m ∧ W (i + 1) m' σ' H') ∧
        ∀ x H', (Itl K a).yld i H x H' → g x σ H' fun σ2 H2 =>
          tb { D with nx := Nx, ct := Nx, bk := D.nx } σ2 H2)
theorem i_forL (h : te σ H fun x H1 => ForL K x g tb D σ H1) : tFor (iList K te) g tb D σ H := h
theorem i_each (hs : SqL K H a xs) (Pv : Nat → L2.St → Hp → Prop) (h0 : Pv 0 σ H)
    (hl : ∀ i σ H, i ≤ xs.length → Pv i σ H → SqL K H a xs)
    (st : ∀ i x σ H, xs[i]? = some x → Pv i σ H → g x σ H fun σ2 H2 =>
      tb { D with nx := Pv (i + 1), ct := Pv (i + 1), bk := D.nx } σ2 H2)
    (hd : ∀ σ H, Pv xs.length σ H → D.nx σ H) : ForL K (.ref a) g tb D σ H :=
  ⟨a, rfl, ⟨_, hs⟩, for_list Pv h0 hl st hd⟩
/-- a for over range(n) -/
def ForR (vs : List V) (g : TG) (tb : TS) (D : Ends) (σ : L2.St) (H : Hp) : Prop :=
  ∃ j : Int, vs = [.int j] ∧ -(2 ^ 62) ≤ j ∧ j < 2 ^ 62 ∧
    ∃ W : Nat → Nat → L2.St → Hp → Prop, (∃ m, W 0 m σ H) ∧ ∀ i m σ H, W i m σ H →
      ((Itr 0 j.toNat).stop i H ∧ D.nx σ H) ∨ ((Itr 0 j.toNat).go i H ∧ ∃ Nx : L2.St → Hp → Prop,
        (∀ σ' H', Nx σ' H' → ∃ m', m' < m ∧ W (i + 1) m' σ' H') ∧
        ∀ x H', (Itr 0 j.toNat).yld i H x H' → g x σ H' fun σ2 H2 =>
          tb { D with nx := Nx, ct := Nx, bk := D.nx } σ2 H2)
theorem i_forR {ta : TA} (h : ta σ H fun vs H1 => ForR vs g tb D σ H1) : tFor (iRng1 ta) g tb D σ H := h
theorem i_turns {n : Int} (b1 : 0 ≤ n) (b2 : n < 2 ^ 62) (Pv : Nat → L2.St → Hp → Prop) (h0 : Pv 0 σ H)
    (st : ∀ (i : Nat) σ H, (i : Int) < n → Pv i σ H → g (.int i) σ H fun σ2 H2 =>
      tb { D with nx := Pv (i + 1), ct := Pv (i + 1), bk := D.nx } σ2 H2)
    (hd : ∀ σ H, Pv n.toNat σ H → D.nx σ H) : ForR [.int n] g tb D σ H := by
  refine ⟨n, rfl, by omega, b2, for_range Pv h0 (fun i σ H hi q => ?_) hd⟩
  have e : V.int (0 + (i : Int)) = V.int i := by rw [Int.zero_add]
  rw [e]
  exact st i σ H (by omega) q

theorem canLay_pairs : ∀ l : List (Int × Int), PyData.canLayAll0 (l.map d2) = true
  | [] => rfl
  | p :: l => by
    simp only [List.map_cons, PyData.canLayAll0, PyData.canLay0, canLay_pairs l]
    rfl
theorem depth_pairs : ∀ l : List (Int × Int), PyData.depthAll (l.map d2) ≤ 1
  | [] => Nat.zero_le _
  | p :: l => by
    simp only [List.map_cons, PyData.depthAll, PyData.depth]
    have q := depth_pairs l
    omega
theorem shaped_of {d : PyData} (h : d.canLay0 = true) (hd : d.depth ≤ 64) : SeqAt.shaped d = true := by
  unfold SeqAt.shaped
  rw [h, decide_eq_true hd]
  rfl
theorem shaped_pairs (l : List (Int × Int)) : SeqAt.shaped (.list (l.map d2)) = true := by
  refine shaped_of ?_ ?_
  · simp only [PyData.canLay0]
    exact canLay_pairs l
  · simp only [PyData.depth]
    have q := depth_pairs l
    omega
theorem shaped_nil : SeqAt.shaped (.list []) = true := by decide +kernel
theorem eqv_nil (ds : List PyData) : PyData.eqv (.list ds) (.list []) = ds.isEmpty := by
  cases ds <;> simp [PyData.eqv, PyData.eqvAll]
/-- xs == [], xs != [] -/
theorem eq_nil (ld : LD K H l ds) (hi : imms ds = true) (hs : SeqAt.shaped (.list ds) = true)
    (hq : Fr H q) (h : Q (.bl ds.isEmpty) (upd H q (.lst []))) :
    uEq K (.ref l) (.ref q) (upd H q (.lst [])) Q := by
  refine i_eqD (LD.dp (ld.kp (Kp.new hq) hi List.not_mem_nil)) (.lst (SqL.of upd_same) .nil) hs
    shaped_nil ?_
  rw [eqv_nil]
  exact h
theorem ne_nil (ld : LD K H l ds) (hi : imms ds = true) (hs : SeqAt.shaped (.list ds) = true)
    (hq : Fr H q) (h : Q (.bl (!ds.isEmpty)) (upd H q (.lst []))) :
    uNe K (.ref l) (.ref q) (upd H q (.lst [])) Q := by
  refine i_neD (LD.dp (ld.kp (Kp.new hq) hi List.not_mem_nil)) (.lst (SqL.of upd_same) .nil) hs
    shaped_nil ?_
  rw [eqv_nil]
  exact h
theorem dpa_last {d : PyData} : ∀ {ds : List PyData} {vs : List V}, DpAll K H vs (ds ++ [d]) →
    ∃ us x, vs = us ++ [x] ∧ DpAll K H us ds ∧ Dp K H x d
  | [], _, h => by
    cases h with
    | cons h1 h2 =>
      cases h2
      exact ⟨[], _, rfl, .nil, h1⟩
  | _ :: ds, _, h => by
    cases h with
    | cons h1 h2 =>
      obtain ⟨us, x, e, q1, q2⟩ := dpa_last h2
      exact ⟨_ :: us, x, by rw [e]; rfl, .cons h1 q1, q2⟩
theorem list_last {α : Type} {l : List α} (h : l ≠ []) : ∃ f q, l = f ++ [q] :=
  ⟨l.dropLast, l.getLast h, (List.dropLast_concat_getLast h).symm⟩
theorem ix_last (n : Nat) : ixN (n + 1) (-1) = some n := by
  unfold ixN
  rw [if_neg (by decide), if_pos (by omega)]
  congr 1
  omega
theorem set_last {α : Type} (l : List α) (a b : α) : (l ++ [a]).set l.length b = l ++ [b] := by
  rw [List.set_append_right _ _ (Nat.le_refl _)]
  simp
theorem upd_nn {o : HO} {u : Option HO} {b : Addr} (h : b ≠ a) (k : H b = u) : upd H a o b = u :=
  (upd_ne h).trans k
/-- what is not tracked then was not tracked before -/
def Old (H H' : Hp) : Prop := ∀ a, H' a = none → H a = none
theorem Old.refl : Old H H := fun _ h => h
theorem old_upd {H1 : Hp} {o : HO} (h : Old H H1) : Old H (upd H1 p o) := fun x e => by
  refine h x ?_
  by_cases z : x = p
  · rw [z, upd_same] at e
    cases e
  · rw [upd_ne z] at e
    exact e
theorem old_kp {H1 H2 : Hp} {ws : List Addr} (k : Kp ws H1 H2) (h : Old H H1) : Old H H2 :=
  fun x e => h x (k.free ⟨e⟩).e
theorem fr_of {H1 : Hp} {x : Addr} (h : Fr H1 x) (o : Old H H1) : Fr H x := ⟨o x h.e⟩
theorem small_sz {n : Nat} (h : n ≤ 1000000) : n < sizeLine := Nat.lt_of_le_of_lt h (by decide)
theorem sqT_new {o : HO} (h : SqT K H a xs) (hq : Fr H q) : SqT K (upd H q o) a xs :=
  (Kp.new (ws := []) hq).seqT h
theorem sqT_lst {o : HO} {ys : List V} (h : SqT K H a xs) (hq : H q = some (.lst ys)) :
    SqT K (upd H q o) a xs :=
  (Kp.mut (ws := [q]) hq (fun z => z) (List.mem_singleton.mpr rfl)).seqT h
theorem i_boN {b : Bool} {A B : Prop} (h1 : b = false → A) (h2 : b = true → B) :
    if (!b) = true then A else B := by
  cases b
  · exact iteT (h1 rfl)
  · exact iteF (h2 rfl)
theorem map_get {α β : Type} {l : List α} {f : α → β} {i : Nat} {d : β} (h : (l.map f)[i]? = some d) :
    ∃ p, l[i]? = some p ∧ d = f p := by
  rw [List.getElem?_map] at h
  cases e : l[i]? with
  | none => rw [e] at h; cases h
  | some p => rw [e] at h; cases h; exact ⟨p, rfl, rfl⟩
end
end G
namespace G
open PySem PySem.Spec PyProof.Rows L2
section
variable {K : PySem.W.Frag} {σ : L2.St} {H : Hp} {Q : VK} {n m : Int} {a p : Addr} {xs : List V} {v : V}
def rAbs : List V → Hp → VK → Prop := fun xs H Q => ∃ i, xs = [.int i] ∧ Q (.int (if i < 0 then -i else i)) H
def rMax2 : List V → Hp → VK → Prop := fun xs H Q => ∃ i j, xs = [.int i, .int j] ∧ Q (.int (if j > i then j else i)) H
def rMin2 : List V → Hp → VK → Prop := fun xs H Q => ∃ i j, xs = [.int i, .int j] ∧ Q (.int (if j < i then j else i)) H
def rDm : List V → Hp → VK → Prop := fun xs H Q => ∃ i j, xs = [.int i, .int j] ∧ CDivP i j ∧
  ∀ p, H p = none → Q (.ref p) (upd H p (.tup [.int (i / j), .int (i % j)]))
def rListOf (K : PySem.W.Frag) : List V → Hp → VK → Prop := fun xs H Q => ∃ p ys, xs = [.ref p] ∧
  (SqL K H p ys ∨ SqT K H p ys) ∧ ∀ l, H l = none → Q (.ref l) (upd H l (.lst ys))
def rPow : R2 := rI CPow fun i j => .int (i ^ j.toNat)
def uMod : R2 := rI (fun _ j => 0 < j) fun i j => .int (i % j)
def uDiv : R2 := rI CDivW fun i j => .int (i / j)
theorem c_abs {X : Cx} : CallR X (.builtin "abs") rAbs := call_abs
theorem c_max2 {X : Cx} (hc : X.calm = true) : CallR X (.builtin "max") rMax2 := call_max2 hc
theorem c_min2 {X : Cx} (hc : X.calm = true) : CallR X (.builtin "min") rMin2 := call_min2 hc
theorem c_dm {X : Cx} : CallR X (.builtin "divmod") rDm := call_divmodW
theorem c_list {X : Cx} : CallR X (.type "list") (rListOf X.K) := call_list_of
theorem o_pow {X : Cx} : OpR X (binaryOp .Pow) rPow := op_pow
theorem o_mod {X : Cx} : OpR X (binaryOp .Mod) uMod := op_mod
theorem o_div {X : Cx} : OpR X (binaryOp .FloorDiv) uDiv := op_fdivW
theorem i_abs (h : Q (.int (n.natAbs : Int)) H) : rAbs [.int n] H Q := by
  refine ⟨n, rfl, ?_⟩
  have e : (if n < 0 then -n else n) = (n.natAbs : Int) := by split <;> omega
  rw [e]
  exact h
theorem i_max2 (h : Q (.int (max n m)) H) : rMax2 [.int n, .int m] H Q := by
  refine ⟨n, m, rfl, ?_⟩
  have e : (if m > n then m else n) = max n m := by
    rw [Int.max_def]
    split <;> split <;> omega
  rw [e]
  exact h
theorem i_min2 (h : Q (.int (min n m)) H) : rMin2 [.int n, .int m] H Q := by
  refine ⟨n, m, rfl, ?_⟩
  have e : (if m < n then m else n) = min n m := by
    rw [Int.min_def]
    split <;> split <;> omega
  rw [e]
  exact h
theorem i_mod (hc : 0 < m) (h : Q (.int (n % m)) H) : uMod (.int n) (.int m) H Q := ⟨n, m, rfl, rfl, hc, h⟩
theorem i_listL (hs : SqL K H p xs) (h : New H fun l => Q (.ref l) (upd H l (.lst xs))) :
    rListOf K [.ref p] H Q := ⟨p, xs, rfl, .inl hs, h⟩
theorem i_listT (hs : SqT K H p xs) (h : New H fun l => Q (.ref l) (upd H l (.lst xs))) :
    rListOf K [.ref p] H Q := ⟨p, xs, rfl, .inr hs, h⟩
theorem pow_go {k : Int} (e : (10 : Int) ^ m.toNat = k) (hm : 0 ≤ m ∧ m ≤ 1000000) (h : Q (.int k) H) :
    rPow (.int 10) (.int m) H Q :=
  ⟨10, m, rfl, rfl, ⟨hm.1, hm.2, by decide⟩, by
    show Q (.int (10 ^ m.toNat)) H
    rw [e]
    exact h⟩
theorem i_pw6 (h : Q (.int 1000000) H) : rPow (.int 10) (.int 6) H Q :=
  pow_go rfl (by decide) h
theorem i_pw16 (h : Q (.int 10000000000000000) H) : rPow (.int 10) (.int 16) H Q :=
  pow_go rfl (by decide) h
theorem i_pw18 (h : Q (.int 1000000000000000000) H) :
    rPow (.int 10) (.int 18) H Q := pow_go rfl (by decide) h
theorem i_pw58 (h : Q (.int 10000000000000000000000000000000000000000000000000000000000) H) :
    rPow (.int 10) (.int 58) H Q := pow_go rfl (by decide) h
theorem i_pw59 (h : Q (.int 100000000000000000000000000000000000000000000000000000000000) H) :
    rPow (.int 10) (.int 59) H Q := pow_go rfl (by decide) h
theorem i_pw60 (h : Q (.int 1000000000000000000000000000000000000000000000000000000000000) H) :
    rPow (.int 10) (.int 60) H Q := pow_go rfl (by decide) h
theorem i_pw61 (h : Q (.int 10000000000000000000000000000000000000000000000000000000000000) H) :
    rPow (.int 10) (.int 61) H Q := pow_go rfl (by decide) h
theorem log_small {j : Int} (h0 : 0 < j) (h : j ≤ 10000000000000000000000000000000000000000000000000000000000000000000000) :
    j.natAbs.log2 < 9000 := by
  have h1 : j.natAbs < 2 ^ 9000 := by
    have h2 : j.natAbs ≤ 10 ^ 70 := by
      have e : ((10 ^ 70 : Nat) : Int) = 10000000000000000000000000000000000000000000000000000000000000000000000 := by rfl
      omega
    exact Nat.lt_of_le_of_lt h2 (by decide +kernel)
  exact (Nat.log2_lt (by omega)).mpr h1
theorem divp_small {i j : Int} (h0 : 0 < j) (h : j.natAbs.log2 < 9000) : CDivP i j := by
  refine ⟨h0, ?_⟩
  have nz : ¬ (j == 0) = true := by
    simpa using (show j ≠ 0 by omega)
  unfold Builtin.divisionGoesByPylong
  simp only [nz]
  have e : ¬ (j.natAbs.log2 / 30 + 1 > 300) := by omega
  first
    | (simp only [e, decide_false, Bool.false_and]; done)
    | (simp [e]; done)
    | (simp; omega)
theorem i_dm (h0 : 0 < m)
    (h1 : m ≤ 10000000000000000000000000000000000000000000000000000000000000000000000)
    (h : New H fun q => Q (.ref q) (upd H q (.tup [.int (n / m), .int (n % m)]))) :
    rDm [.int n, .int m] H Q := ⟨n, m, rfl, divp_small h0 (log_small h0 h1), h⟩
theorem i_div (h0 : 0 < m)
    (h1 : m ≤ 10000000000000000000000000000000000000000000000000000000000000000000000)
    (h : Q (.int (n / m)) H) : uDiv (.int n) (.int m) H Q := ⟨n, m, rfl, rfl, ⟨h0, log_small h0 h1⟩, h⟩
/-- a pot: two numbers from which draws come -/
def PotAt (H : Hp) (p : Addr) : Prop :=
  ∃ x y : Int, H p = some (.lst [.int x, .int y]) ∧ 0 ≤ x ∧ 0 ≤ y ∧ y < 8589934592
theorem PotAt.kp {ws : List Addr} {H1 : Hp} (h : PotAt H p) (k : Kp ws H H1) (hp : p ∉ ws) : PotAt H1 p := by
  obtain ⟨x, y, e, r⟩ := h
  exact ⟨x, y, k.at_ _ _ e hp, r⟩
end
end G
namespace G
open PySem PySem.Spec PyProof.Rows L2
def dty : PyData → String
  | .none => "NoneType"
  | .bool _ => "bool"
  | .int _ => "int"
  | .str _ => "str"
  | .list _ => "list"
  | .tuple _ => "tuple"
  | .dict _ => "dict"
section
variable {K : PySem.W.Frag} {σ : L2.St} {H : Hp} {Q : VK} {n m : Int} {a p : Addr} {xs : List V} {v : V} {d : PyData}
theorem dp_ty (h : Dp K H v d) : TyX K H v (.type (dty d)) := by
  cases h with
  | non => exact .base .non
  | bl b => exact .base (.bl b)
  | int i => exact .base (.int i)
  | str x => exact .base (.str x)
  | lst hs ha =>
    rcases hs with (h | ⟨o, h⟩) | ⟨o, its, k, e, c, r⟩
    · exact .base (.lst h)
    · exact .base (.frz h)
    · exact .kList e c
  | tup hs ha =>
    rcases hs with (h | ⟨o, h⟩) | ⟨o, its, k, e, c, r⟩
    · exact .base (.tup h)
    · exact .fTuple h
    · exact .kTuple e c
theorem i_isD {T : String} {b : Bool} (hd : Dp K H v d) (e : kitB (dty d) T = some b) (h : Q (.bl b) H) :
    rIsi K [v, .ty T] H Q := ⟨v, .ty T, _, _, b, rfl, .ty T, dp_ty hd, kit_ty e, h⟩
theorem i_revL {te : TE} (h : te σ H fun x H1 => ∃ a xs, x = .ref a ∧ SqL K H1 a xs ∧
    New H1 fun p => Q (.ref p) (upd H1 p (.lst xs.reverse))) : tRevL K te σ H Q := h
theorem i_revd {P : Addr → List V → Prop} (hs : SqL K H a xs) (h : P a xs) :
    ∃ b ys, V.ref a = .ref b ∧ SqL K H b ys ∧ P b ys := ⟨a, xs, rfl, hs, h⟩
def rIns : V → List V → Hp → VK → Prop := fun x vs H Q => ∃ (l : Addr) (xs : List V) (i : Int) (y : V),
  x = .ref l ∧ vs = [.int i, y] ∧ H l = some (.lst xs) ∧ xs.length < sizeLine ∧ 0 ≤ i ∧ i < 2 ^ 63 ∧
  Q .non (upd H l (.lst (xs.take i.toNat ++ [y] ++ xs.drop i.toNat)))
theorem m_insert {X : Cx} : MtR X "list.insert" rIns := mt_insert
theorem i_ins0 {y : V} (hs : H p = some (.lst xs)) (hz : xs.length < sizeLine)
    (h : Q .non (upd H p (.lst (y :: xs)))) : rIns (.ref p) [.int 0, y] H Q :=
  ⟨p, xs, 0, y, rfl, rfl, hs, hz, by decide, by decide, h⟩
theorem i_call0 {sp : Sp} {E : XK} {tr : TA} (h : tr σ H fun vs H1 => sp vs H1 Q E) :
    tCall sp [] E tr σ H Q := by
  unfold tCall
  simp only [List.append_nil]
  exact h
def rAllB (K : PySem.W.Frag) : List V → Hp → VK → Prop := rAll K
theorem i_all {bs : List Bool} (hs : SqL K H p (bs.map V.bl)) (h : Q (.bl (bs.all id)) H) :
    rAll K [.ref p] H Q := ⟨p, bs, rfl, hs, h⟩
theorem i_any {bs : List Bool} (hs : SqL K H p (bs.map V.bl)) (h : Q (.bl (bs.any id)) H) :
    rAny K [.ref p] H Q := ⟨p, bs, rfl, hs, h⟩
theorem i_sum {ns : List Int} (hs : SqL K H p (ns.map V.int)) (h : Q (.int ns.sum) H) :
    rSum K [.ref p] H Q := ⟨p, ns, rfl, hs, h⟩
/-- an item by an index that is not written -/
theorem at_in {l : List V} {r : Int} (h0 : 0 ≤ r) (h1 : r < l.length) : ∃ v, atI l r = some v ∧ v ∈ l := by
  obtain ⟨k, rfl⟩ : ∃ k : Nat, r = k := ⟨r.toNat, by omega⟩
  have hl : k < l.length := by omega
  exact ⟨l[k], atI_nat (by simp), List.getElem_mem hl⟩
end
section
variable {K : PySem.W.Frag} {σ : L2.St} {H H1 : Hp} {Q : VK} {a p l : Addr} {xs : List V} {g : TG} {tt : TT} {te : TE} {vs : List Nat} {QB : Bool → Hp → Prop}
/-- a comprehension over x, a list -/
def LcL (K : PySem.W.Frag) (x : V) (g : TG) (tt : TT) (te : TE) (vs : List Nat) (σ : L2.St) (H1 : Hp) (Q : VK) : Prop :=
  ∃ a, x = .ref a ∧ (∃ xs, SqL K H1 a xs) ∧ ∀ D, H1 D = none →
    ∃ W : Nat → Nat → Hp → Prop, (∃ m, W 0 m (upd H1 D (.lst []))) ∧ ∀ i m H, W i m H →
      ((Itl K a).stop i H ∧ Q (.ref D) H) ∨ ((Itl K a).go i H ∧ ∃ Nx : Hp → Prop,
        (∀ H', Nx H' → ∃ m', m' < m ∧ W (i + 1) m' H') ∧
        ∀ x H', (Itl K a).yld i H x H' → g x (wipe σ vs) H' fun σ2 H2 => wipe σ2 vs = wipe σ vs ∧ tt σ2 H2 fun b H3 =>
          if b = true then te σ2 H3 fun y H4 => ∃ acc, H4 D = some (.lst acc) ∧ acc.length < sizeLine ∧
            Nx (upd H4 D (.lst (acc ++ [y]))) else Nx H3)
theorem i_lcL {te' : TE} (h : te' σ H fun x H1 => LcL K x g tt te vs σ H1 Q) :
    tLc (iList K te') g tt te vs σ H Q := h
theorem i_elts (hs : SqL K H a xs) (Pv : Addr → Nat → Hp → Prop)
    (h0 : ∀ D, Fr H D → Pv D 0 (upd H D (.lst [])))
    (hl : ∀ D i H', Fr H D → i ≤ xs.length → Pv D i H' → SqL K H' a xs)
    (st : ∀ D i x H', Fr H D → xs[i]? = some x → Pv D i H' → g x (wipe σ vs) H' fun σ2 H2 =>
      wipe σ2 vs = wipe σ vs ∧ tt σ2 H2 fun b H3 => if b = true then te σ2 H3 fun y H4 =>
        ∃ acc, H4 D = some (.lst acc) ∧ acc.length < sizeLine ∧ Pv D (i + 1) (upd H4 D (.lst (acc ++ [y])))
        else Pv D (i + 1) H3)
    (hd : ∀ D H', Fr H D → Pv D xs.length H' → Q (.ref D) H') : LcL K (.ref a) g tt te vs σ H Q := by
  refine ⟨a, rfl, ⟨_, hs⟩, fun D hD => ?_⟩
  exact lc_list (K := K) (a := a) (xs := xs) (Pv D) (h0 D ⟨hD⟩) (fun i H' => hl D i H' ⟨hD⟩)
    (fun i x H' => st D i x H' ⟨hD⟩) (fun H' => hd D H' ⟨hD⟩)
def LcR (ws : List V) (g : TG) (tt : TT) (te : TE) (vs : List Nat) (σ : L2.St) (H1 : Hp) (Q : VK) : Prop :=
  ∃ j : Int, ws = [.int j] ∧ -(2 ^ 62) ≤ j ∧ j < 2 ^ 62 ∧ ∀ D, H1 D = none →
    ∃ W : Nat → Nat → Hp → Prop, (∃ m, W 0 m (upd H1 D (.lst []))) ∧ ∀ i m H, W i m H →
      ((Itr 0 j.toNat).stop i H ∧ Q (.ref D) H) ∨ ((Itr 0 j.toNat).go i H ∧ ∃ Nx : Hp → Prop,
        (∀ H', Nx H' → ∃ m', m' < m ∧ W (i + 1) m' H') ∧
        ∀ x H', (Itr 0 j.toNat).yld i H x H' → g x (wipe σ vs) H' fun σ2 H2 => wipe σ2 vs = wipe σ vs ∧ tt σ2 H2 fun b H3 =>
          if b = true then te σ2 H3 fun y H4 => ∃ acc, H4 D = some (.lst acc) ∧ acc.length < sizeLine ∧
            Nx (upd H4 D (.lst (acc ++ [y]))) else Nx H3)
theorem i_lcR {ta : TA} (h : ta σ H fun ws H1 => LcR ws g tt te vs σ H1 Q) :
    tLc (iRng1 ta) g tt te vs σ H Q := h
theorem i_reps {n : Int} (b1 : 0 ≤ n) (b2 : n < 2 ^ 62) (Pv : Addr → Nat → Hp → Prop)
    (h0 : ∀ D, Fr H D → Pv D 0 (upd H D (.lst [])))
    (st : ∀ D (i : Nat) H', Fr H D → (i : Int) < n → Pv D i H' → g (.int i) (wipe σ vs) H' fun σ2 H2 =>
      wipe σ2 vs = wipe σ vs ∧ tt σ2 H2 fun b H3 => if b = true then te σ2 H3 fun y H4 =>
        ∃ acc, H4 D = some (.lst acc) ∧ acc.length < sizeLine ∧ Pv D (i + 1) (upd H4 D (.lst (acc ++ [y])))
        else Pv D (i + 1) H3)
    (hd : ∀ D H', Fr H D → Pv D n.toNat H' → Q (.ref D) H') : LcR [.int n] g tt te vs σ H Q := by
  refine ⟨n, rfl, by omega, b2, fun D hD => ?_⟩
  refine lc_range (lo := 0) (n := n.toNat) (Pv D) (h0 D ⟨hD⟩) (fun i H' hi q => ?_) (fun H' => hd D H' ⟨hD⟩)
  have e : V.int (0 + (i : Int)) = V.int i := by rw [Int.zero_add]
  rw [e]
  exact st D i H' ⟨hD⟩ (by omega) q
theorem i_wipe {σ2 : L2.St} {P : Prop} (e : wipe σ2 vs = wipe σ vs) (h : P) : wipe σ2 vs = wipe σ vs ∧ P := ⟨e, h⟩
theorem i_yes (h : QB true H) : tYes σ H QB := h
theorem i_acc {D : Addr} {y : V} {P : Hp → Prop} {acc : List V} (h1 : H D = some (.lst acc)) (h2 : acc.length < sizeLine)
    (h : P (upd H D (.lst (acc ++ [y])))) : ∃ acc, H D = some (.lst acc) ∧ acc.length < sizeLine ∧ P (upd H D (.lst (acc ++ [y]))) :=
  ⟨acc, h1, h2, h⟩
end
end G
namespace G
open PySem PySem.Spec PyProof.Rows L2
section
variable {K : PySem.W.Frag} {H H1 : Hp} {a p l q : Addr} {ws : List Addr} {o u : HO} {ds : List PyData}
theorem kp_at (k : Kp ws H H1) (h : H a = some u) (n : a ∉ ws) : H1 a = some u := k.at_ a u h n
theorem not_nil {α : Type} {a : α} : a ∉ ([] : List α) := List.not_mem_nil
theorem not_one {a b : Addr} (h : a ≠ b) : a ∉ [b] := fun z => h (List.mem_singleton.mp z)
theorem not_two {a b c : Addr} (h : a ≠ b) (h2 : a ≠ c) : a ∉ [b, c] := fun z => by
  rcases List.mem_cons.mp z with z | z
  · exact h z
  · exact h2 (List.mem_singleton.mp z)
theorem pot_upd (h : PotAt H p) (n : p ≠ q) : PotAt (upd H q o) p := by
  obtain ⟨x, y, e, r⟩ := h
  exact ⟨x, y, by rw [upd_ne n]; exact e, r⟩
theorem PotAt.ne {x : Addr} (h : PotAt H p) (f : Fr H x) : p ≠ x := by
  have hx := f.e
  obtain ⟨_, _, e, _⟩ := h
  exact ne_of_none e hx
theorem pot_ne {x : Addr} (hx : Fr H x) (h : PotAt H p) : p ≠ x := h.ne hx
theorem LD.ne {x : Addr} (h : LD K H l ds) (f : Fr H x) : l ≠ x := by
  have hx := f.e
  obtain ⟨_, e, _⟩ := h
  exact ne_of_none e hx
theorem ld_ne {x : Addr} (f : Fr H x) (h : LD K H l ds) : l ≠ x := h.ne f
theorem ld_upd (h : LD K H l ds) (hi : imms ds = true) (hq : Fr H q) : LD K (upd H q o) l ds := by
  have k : Kp ([] : List Addr) H (upd H q o) := Kp.new hq
  exact h.kp k hi not_nil
theorem ld_upl {ys : List V} (h : LD K H l ds) (hi : imms ds = true) (hq : H q = some (.lst ys))
    (n : l ≠ q) : LD K (upd H q o) l ds := by
  have k : Kp [q] H (upd H q o) := Kp.mut hq (fun z => z) (List.mem_singleton.mpr rfl)
  exact h.kp k hi (not_one n)
theorem sqL_new {xs : List V} (h : SqL K H a xs) (f : Fr H q) : SqL K (upd H q o) a xs :=
  (Kp.new (ws := []) f).seqL not_nil h
theorem sqL_kp {xs : List V} (k : Kp ws H H1) (h : SqL K H a xs) (n : a ∉ ws) : SqL K H1 a xs := k.seqL n h
theorem at_zero {x : V} {xs : List V} : atI (x :: xs) 0 = some x := atI_nat (j := 0) rfl
theorem ix_zero (n : Nat) : ixN (n + 1) 0 = some 0 := by
  unfold ixN
  rw [if_pos (by decide), if_pos (by omega)]
  rfl
theorem dpa_rev : ∀ {ds : List PyData} {vs : List V}, DpAll K H vs ds → DpAll K H vs.reverse ds.reverse
  | [], _, h => by cases h; exact .nil
  | _ :: _, _, h => by
    cases h with
    | cons h1 h2 =>
      rw [List.reverse_cons, List.reverse_cons]
      exact dpa_app (dpa_rev h2) (dpa_one h1)
/-- something is put behind -/
theorem ld_app {y : V} {d : PyData} {vs : List V} (h : DpAll K H vs ds) (e : H l = some (.lst vs))
    (hi : imms ds = true) (hd : Dp K H y d) (hj : imm d = true) : LD K (upd H l (.lst (vs ++ [y]))) l (ds ++ [d]) := by
  have k : Kp [l] H (upd H l (.lst (vs ++ [y]))) := Kp.mut e (fun z => z) (List.mem_singleton.mpr rfl)
  exact ⟨_, upd_same, dpa_app (dpa_imm k _ _ hi h) (dpa_one (dp_imm k _ _ hj hd))⟩
end
end G

namespace G
open PySem PySem.Spec PyProof.Rows L2
/-! the same rules, the written part named -/
section
variable {X : Cx} {K : PySem.W.Frag} {e : Expr} {es : List Expr} {te : TE} {t : TGs} {f : Str} {pos : Pos} {tg : Expr}
theorem k_add (h : X.K = K) : OpR X (binaryOp .Add) (uAdd K) := h ▸ o_add
theorem k_eq (h : X.K = K) (hu : X.A.units + 64 < cLine) : OpR X (compareOp .Eq) (uEq K) := h ▸ o_eq hu
theorem k_ne (h : X.K = K) (hu : X.A.units + 64 < cLine) : OpR X (compareOp .NotEq) (uNe K) := h ▸ o_ne hu
theorem k_ix (h : X.K = K) : IxR X (uIx K) := h ▸ o_ix
theorem k_len (h : X.K = K) : CallR X (.builtin "len") (uLen K) := h ▸ c_len
theorem k_list (h : X.K = K) : CallR X (.type "list") (rListOf K) := h ▸ c_list
theorem k_repr (h : X.K = K) (hg : X.A.guards = some []) (hu : X.A.units + 64 < cLine) :
    CallR X (.builtin "repr") (rRepr K) := h ▸ call_repr hg hu
theorem k_all (h : X.K = K) (hc : X.calm = true) : CallR X (.builtin "all") (rAll K) := h ▸ cr_all hc
theorem k_any (h : X.K = K) (hc : X.calm = true) : CallR X (.builtin "any") (rAny K) := h ▸ cr_any hc
theorem k_sum (h : X.K = K) (hc : X.calm = true) : CallR X (.builtin "sum") (rSum K) := h ▸ cr_sum hc
theorem k_isi (h : X.K = K) : CallR X (.builtin "isinstance") (rIsi K) := h ▸ call_isi
theorem k_sl (h : X.K = K) : SlR X (rSlL K) := h ▸ sl_list
theorem k_slT (h : X.K = K) : SlR X (rSlT K) := h ▸ sl_tup
theorem k_in (h : X.K = K) : OpR X (compareOp .In) (rIn K false) := h ▸ op_in_seq
theorem k_nin (h : X.K = K) : OpR X (compareOp .NotIn) (rIn K true) := h ▸ op_notIn_seq
theorem k_fld (h : X.K = K) (he : PE X e te) (hb : attributeBase e f X.env (eval e X.env) = eval e X.env) :
    PE X (.Attribute e f pos) (tFld K te f) := h ▸ pe_fld he hb
theorem k_plist (h : X.K = K) (he : PE X e te) : PI X tg e (iList K te) := h ▸ pi_list he
theorem k_ptup (h : X.K = K) (he : PE X e te) : PI X tg e (iTup K te) := h ▸ pi_tup he
theorem k_rev {k : Nat} {p1 p2 p3 : Pos} (h : X.K = K) (he : PE X e te) :
    PE X (.Subscript e (.Slice none none (some (.UnaryOp .USub (.Constant (.int 1) k p1) p2)) p3) pos) (tRevL K te) :=
  h ▸ pe_revL he
theorem k_gtup {k : Nat} (n : Nat) (h : X.K = K) (hc : X.calm = true) (hp : PGs X es t)
    (hn : (assignEach es X.env).length = n := by rfl)
    (hst : (assignEach es X.env).findIdx? (·.1) = none := by rfl) : PG X (.Tuple es k pos) (gTup K n t) :=
  h ▸ pg_tup hc hp hn hst
end
end G
namespace G
open PySem PySem.Spec PyProof.Rows L2
/-! what is tracked; what is fixed -/
structure Tr (H : Hp) (a : Addr) : Prop where
  ex : ∃ o, H a = some o
structure Fx (H H1 : Hp) : Prop where
  fx : ∀ a u, H a = some u → Fix u → H1 a = some u
section
variable {K : PySem.W.Frag} {H H0 H1 : Hp} {Q : VK} {a b p l q : Addr} {ws : List Addr} {o u : HO} {ds : List PyData} {xs : List V} {n : Int} {v : V}
theorem tr_of (h : H a = some o) : Tr H a := ⟨o, h⟩
theorem tr_same : Tr (upd H p o) p := ⟨o, upd_same⟩
theorem tr_upd (h : Tr H a) : Tr (upd H p o) a := by
  by_cases e : a = p
  · rw [e]
    exact tr_same
  · obtain ⟨u, h⟩ := h.ex
    exact ⟨u, by rw [upd_ne e]; exact h⟩
theorem tr_kp (k : Kp ws H H1) (h : Tr H a) : Tr H1 a := by
  obtain ⟨u, h⟩ := h.ex
  obtain ⟨v, e⟩ := k.dom _ _ h
  exact ⟨v, e⟩
theorem tr_ld (h : LD K H a ds) : Tr H a := by
  obtain ⟨vs, e, _⟩ := h
  exact ⟨_, e⟩
theorem tr_pot (h : PotAt H a) : Tr H a := by
  obtain ⟨x, y, e, _⟩ := h
  exact ⟨_, e⟩
theorem fr_tr (h : Tr H a) (f : Fr H b) : a ≠ b := by
  obtain ⟨u, e⟩ := h.ex
  exact fr_ne e f
theorem fx_refl : Fx H H := ⟨fun _ _ h _ => h⟩
theorem fx_new (h : Fx H0 H) (f : Fr H p) : Fx H0 (upd H p o) := ⟨fun a u e z => by
  have e2 := h.fx a u e z
  rw [upd_ne (fr_ne e2 f)]
  exact e2⟩
theorem fx_mut (h : Fx H0 H) (f : H p = some u) (nf : ¬ Fix u) : Fx H0 (upd H p o) := ⟨fun a v e z => by
  have e2 := h.fx a v e z
  rw [upd_ne]
  · exact e2
  · intro c
    subst c
    rw [f] at e2
    cases e2
    exact nf z⟩
theorem fx_kp (k : Kp ws H H1) (h : Fx H0 H) : Fx H0 H1 := ⟨fun a u e z => k.fix a u (h.fx a u e z) z⟩
theorem Fx.seqT (k : Fx H H1) (h : SqT K H l xs) : SqT K H1 l xs := by
  rcases h with (h | ⟨o, h⟩) | h
  · exact .inl (.inl (k.fx _ _ h trivial))
  · exact .inl (.inr ⟨o, k.fx _ _ h trivial⟩)
  · exact .inr h
mutual
theorem Fx.dp (k : Fx H H1) : ∀ (d : PyData) (v : V), imm d = true → Dp K H v d → Dp K H1 v d
  | .none, _, _, h => by cases h; exact .non
  | .bool b, _, _, h => by cases h; exact .bl b
  | .int i, _, _, h => by cases h; exact .int i
  | .str x, _, _, h => by cases h; exact .str x
  | .tuple ds, _, hi, h => by
    cases h with
    | tup hs ha => exact .tup (k.seqT hs) (Fx.dpa k ds _ (by simpa only [imm] using hi) ha)
  | .list _, _, hi, _ => by simp only [imm] at hi; cases hi
  | .dict _, _, hi, _ => by simp only [imm] at hi; cases hi
theorem Fx.dpa (k : Fx H H1) : ∀ (ds : List PyData) (vs : List V), imms ds = true →
    DpAll K H vs ds → DpAll K H1 vs ds
  | [], _, _, h => by cases h; exact .nil
  | d :: ds, _, hi, h => by
    simp only [imms, Bool.and_eq_true] at hi
    cases h with
    | cons h1 h2 => exact .cons (Fx.dp k d _ hi.1 h1) (Fx.dpa k ds _ hi.2 h2)
end
/-- an item of an object -/
def ixO : HO → Int → V → Prop
  | .lst xs, n, v => atI xs n = some v
  | .tup xs, n, v => atI xs n = some v
  | _, _, _ => False
theorem i_ixO (h : H p = some o) (hv : ixO o n v) (q : Q v H) : uIx K (.ref p) (.int n) H Q := by
  cases o with
  | lst xs => exact i_ixL (SqL.of h) hv q
  | tup xs => exact i_ixT (SqT.of h) hv q
  | _ => exact hv.elim
theorem i_ixS (h0 : SqT K H0 p xs) (k : Fx H0 H) (hv : atI xs n = some v) (q : Q v H) :
    uIx K (.ref p) (.int n) H Q := i_ixT (k.seqT h0) hv q
def lenO : HO → Int → Prop
  | .lst xs, n => n = xs.length
  | .tup xs, n => n = xs.length
  | _, _ => False
theorem i_lenO (h : H p = some o) (hv : lenO o n) (q : Q (.int n) H) : uLen K [.ref p] H Q := by
  cases o with
  | lst xs =>
    have e : n = xs.length := hv
    subst e
    exact i_lenL (SqL.of h) q
  | tup xs =>
    have e : n = xs.length := hv
    subst e
    exact i_lenT (SqT.of h) q
  | _ => exact hv.elim
end
end G
namespace G
open PySem PySem.Spec PyProof.Rows L2
section
variable {K : PySem.W.Frag} {H : Hp} {Q : VK} {x y : V} {d : PyData}
theorem ne_same (hx : Dp K H x d) (hy : Dp K H y d) (sh : SeqAt.shaped d = true) (h : Q (.bl false) H) :
    uNe K x y H Q := by
  refine i_neD hx hy sh sh ?_
  rw [SeqAt.eqv_refl d (SeqAt.canLay_of_shaped sh)]
  exact h
theorem eq_same (hx : Dp K H x d) (hy : Dp K H y d) (sh : SeqAt.shaped d = true) (h : Q (.bl true) H) :
    uEq K x y H Q := by
  refine i_eqD hx hy sh sh ?_
  rw [SeqAt.eqv_refl d (SeqAt.canLay_of_shaped sh)]
  exact h
/-- a number that may be shown -/
def okI (i : Int) : Prop := i.natAbs.log2 < 1920
theorem okI_of {i : Int} (h0 : -100000000000000000000000000000000000000000000000000000000000000000000000 ≤ i)
    (h1 : i ≤ 100000000000000000000000000000000000000000000000000000000000000000000000) : okI i := by
  unfold okI
  have h2 : i.natAbs ≤ 10 ^ 71 := by
    have e : ((10 ^ 71 : Nat) : Int) = 100000000000000000000000000000000000000000000000000000000000000000000000 := by rfl
    omega
  by_cases z : i.natAbs = 0
  · rw [z]
    decide
  · exact (Nat.log2_lt z).mpr (Nat.lt_of_le_of_lt h2 (by decide +kernel))
theorem shws_pairs : ∀ l : List (Int × Int), (∀ q ∈ l, okI q.1 ∧ okI q.2) → shws (l.map d2) = true
  | [], _ => rfl
  | q :: l, h => by
    have a := h q List.mem_cons_self
    have b := shws_pairs l fun z hz => h z (List.mem_cons_of_mem _ hz)
    simp only [List.map_cons, shws, shw, b, Bool.and_true, Bool.and_eq_true, decide_eq_true_eq]
    exact a
theorem cws_pairs : ∀ l : List (Int × Int), cws (l.map d2) = 3868 * l.length
  | [] => rfl
  | q :: l => by
    simp only [List.map_cons, cws, cw, cws_pairs l, List.length_cons]
    omega
theorem depth_list (l : List (Int × Int)) : (PyData.list (l.map d2)).depth ≤ 60 := by
  simp only [PyData.depth]
  have q := depth_pairs l
  omega
theorem repr_pairs {l : List (Int × Int)} (hx : Dp K H x (.list (l.map d2))) (h : ∀ q ∈ l, okI q.1 ∧ okI q.2)
    (hl : l.length ≤ 4000) (q : Q (.str (PyData.list (l.map d2)).shown) H) : rRepr K [x] H Q := by
  refine i_repr hx ?_ (depth_list l) ?_ q
  · simp only [shw]
    exact shws_pairs l h
  · have e : cw (.list (l.map d2)) = 3868 * l.length + 2 := by simp only [cw, cws_pairs]
    rw [e]
    exact Nat.le_trans (show 3868 * l.length + 2 ≤ 15472002 by omega) (by decide)
end
end G
namespace G
open PySem PySem.Spec PyProof.Rows L2
/-! methods, new instances, keywords -/
section
variable {X : Cx} {k n : Nat} {f C : Addr} {fd : FuncData} {ps ks : List Str} {sp : Sp}
variable {dvs : List V} {ds : List Value} {E : XK} {x m : Str} {p pos apos : Pos} {e o : Expr}
variable {es : List Expr} {kws : List Keyword} {ta : TE} {t tk : TA} {pins : List (Addr × Obj)} {σ : L2.St} {H : Hp}
variable {s s' : Shared} {Q : VK} {g : List Value → List Value → List Value} {gV : List V → List V → List V}
/-- defaults of which only the values are known -/
def BindsD (K : PySem.W.Frag) (fd : FuncData) (ps : List Str) (dvs : List V) : Prop :=
  ∃ ds, Vals dvs ds ∧ Binds K fd ps ds
def KBnD (K : PySem.W.Frag) (fd : FuncData) (ps : List Str) (n : Nat) (ks : List Str)
    (gV : List V → List V → List V) : Prop := ∃ g, KBn K fd ps n ks g gV
theorem BindsD.plain {K : PySem.W.Frag} (h : Binds K fd ps []) : BindsD K fd ps [] := ⟨[], .nil, h⟩
theorem d1 (F : Fg X k f fd ps sp) (z : RoomG k X.A) (hg : Gl X x) (hm : X.mg x = some (.ref f))
    (hk : PySem.W.keepIn X.K (.ref f) = true) (hb : BindsD X.K fd ps dvs)
    (hx : Ps X E) (ha : PA X (e :: es) t)
    (hdb : (x == ("__debug__" : Str)) = false := by decide)
    (he : starEach (e :: es) X.env = (false, eval e X.env) :: starEach es X.env := by rfl)
    (hpl : (backTo pos (starEach es X.env)).any (·.1) = false := by rfl) :
    PE X (.Call (.Name x p) (e :: es) [] pos) (tCall sp dvs E t) := by
  obtain ⟨ds, hd, hb⟩ := hb
  exact c1 F z hg hm hk hb hd hx ha hdb he hpl
theorem dm {pl : Sem Bool} (c : Cls X.K C) (hm : Meth X.K C m f)
    (F : Fg X k f fd ps sp) (z : RoomG k X.A) (hb : BindsD X.K fd ps dvs)
    (hx : Ps X E) (he : PE X o ta) (ha : PA X (e :: es) t)
    (hst : starEach (e :: es) X.env = (false, eval e X.env) :: starEach es X.env := by rfl)
    (hpl : (backTo pos (starEach es X.env)).any (·.1) = false := by rfl)
    (ht : eval (.Call (.Attribute o m apos) (e :: es) [] pos) X.env = (do
      let y ← eval o X.env
      standAt apos.atName
      let (g, a) ← holding [y] (getMethod y m pl)
      callWith pos g a (backTo pos (starEach (e :: es) X.env))
        (backToKw pos (keywordEach [] X.env))) := by rfl) :
    PE X (.Call (.Attribute o m apos) (e :: es) [] pos) (tMeth C m sp dvs E ta t) := by
  obtain ⟨ds, hd, hb⟩ := hb
  exact cm he c hm F z hb hd hx ha hst hpl ht
theorem dm0 {pl : Sem Bool} (c : Cls X.K C) (hm : Meth X.K C m f)
    (F : Fg X k f fd ps sp) (z : RoomG k X.A) (hb : BindsD X.K fd ps dvs)
    (hx : Ps X E) (he : PE X o ta)
    (ht : eval (.Call (.Attribute o m apos) [] [] pos) X.env = (do
      let y ← eval o X.env
      standAt apos.atName
      let (g, a) ← holding [y] (getMethod y m pl)
      callWith pos g a (backTo pos (starEach [] X.env))
        (backToKw pos (keywordEach [] X.env))) := by rfl) :
    PE X (.Call (.Attribute o m apos) [] [] pos) (tMeth C m sp dvs E ta tNil) := by
  obtain ⟨ds, hd, hb⟩ := hb
  exact cm0 he c hm F z hb hd hx ht
/-- a call of f with positional values and keywords -/
theorem runK {us ws : List Value} {vs zs : List V} (F : Fg X k f fd ps sp) (z : RoomG k X.A)
    (hb : KBn X.K fd ps n ks g gV) (hx : Ps X E) (I : Inv X pins σ H s) (rv : Vals vs us) (rz : Vals zs ws)
    (l1 : vs.length = n) (l2 : zs.length = ks.length) (h : sp (gV vs zs) H Q E) :
    wpAny (model X.prog X.w) X.A (call (.ref f) us (ks.zip ws)) (EP X pins σ Q) X.xe s := by
  have b := hb.to s us ws I.kIn (rv.length.symm.trans l1) (rz.length.symm.trans l2)
  refine wpAny_call (codeAny_mono (runG F z b hx I (hb.rel rv rz) h) ?_)
  intro r s' q
  match r, q with
  | .error e, q => exact q
  | .ok (.ret u), q => exact q
  | .ok .next, q => exact q
  | .ok .brk, q => exact q
  | .ok .cont, q => exact q
def tKw (n m : Nat) (sp : Sp) (gV : List V → List V → List V) (E : XK) (t tk : TA) : TE := fun σ H Q =>
  t σ H fun vs H1 => tk σ H1 fun zs H2 => vs.length = n ∧ zs.length = m ∧ sp (gV vs zs) H2 Q E
def tMw (C : Addr) (nm : Str) (n m : Nat) (sp : Sp) (gV : List V → List V → List V) (E : XK) (ta : TE) (t tk : TA) : TE :=
  fun σ H Q => ta σ H fun x H1 => ∃ a dx fs, x = .ref a ∧ H1 a = some (.ins C dx fs) ∧ fs.lookup nm = none ∧
    t σ H1 fun vs H2 => tk σ H2 fun zs H3 => vs.length = n ∧ zs.length = m ∧ sp (gV (x :: vs) zs) H3 Q E
theorem kc (F : Fg X k f fd ps sp) (z : RoomG k X.A) (hg : Gl X x) (hm : X.mg x = some (.ref f))
    (hk : PySem.W.keepIn X.K (.ref f) = true) (hb : KBnD X.K fd ps n ks gV) (hx : Ps X E)
    (ha : PA X (e :: es) t) (hkw : PK X kws tk)
    (hall : (backToKw pos (keywordEach kws X.env)).all (·.1.isSome) = true := by rfl)
    (hks : (backToKw pos (keywordEach kws X.env)).filterMap (·.1) = ks := by rfl)
    (hdb : (x == ("__debug__" : Str)) = false := by decide)
    (he : starEach (e :: es) X.env = (false, eval e X.env) :: starEach es X.env := by rfl)
    (hpl : ((backTo pos (starEach (e :: es) X.env)).any (·.1) ||
      (backToKw pos (keywordEach kws X.env)).any (·.1.isNone)) = false := by rfl) :
    PE X (.Call (.Name x p) (e :: es) kws pos) (tKw n ks.length sp gV E t tk) := by
  obtain ⟨g, hb⟩ := hb
  constructor
  intro pins s σ H Q I h
  refine wpAny_Call_Name_kw (ld_glob I hg hm ?_ hdb)
  refine PySem.W.callWith_KW (h₀ := X.base) I.ok.mod.kin hk hall ?_ hpl he
  refine thn (ha.run pos pins s σ H _ I h) ?_
  intro us s1 y
  obtain ⟨vs, H1, I1, r, q⟩ := y
  refine thn (hkw.run pos pins s1 σ H1 _ I1 q) ?_
  intro ws s2 y
  obtain ⟨zs, H2, I2, rz, l1, l2, q2⟩ := y
  refine ⟨I2.kIn, ?_⟩
  rw [hks]
  exact runK F z hb hx I2 r rz l1 l2 q2
theorem kc0 (F : Fg X k f fd ps sp) (z : RoomG k X.A) (hg : Gl X x) (hm : X.mg x = some (.ref f))
    (hk : PySem.W.keepIn X.K (.ref f) = true) (hb : KBnD X.K fd ps 0 ks gV) (hx : Ps X E)
    (hkw : PK X kws tk)
    (hall : (backToKw pos (keywordEach kws X.env)).all (·.1.isSome) = true := by rfl)
    (hks : (backToKw pos (keywordEach kws X.env)).filterMap (·.1) = ks := by rfl)
    (hdb : (x == ("__debug__" : Str)) = false := by decide)
    (hpl : ((backTo pos (starEach [] X.env)).any (·.1) ||
      (backToKw pos (keywordEach kws X.env)).any (·.1.isNone)) = false := by rfl) :
    PE X (.Call (.Name x p) [] kws pos) (tKw 0 ks.length sp gV E tNil tk) := by
  obtain ⟨g, hb⟩ := hb
  constructor
  intro pins s σ H Q I h
  refine wpAny_Call_Name_kw (ld_glob I hg hm ?_ hdb)
  refine PySem.W.callWith_KW0 (h₀ := X.base) I.ok.mod.kin hk hall ?_ hpl
  refine thn (hkw.run pos pins s σ H _ I h) ?_
  intro ws s2 y
  obtain ⟨zs, H2, I2, rz, l1, l2, q2⟩ := y
  refine ⟨I2.kIn, ?_⟩
  rw [hks]
  exact runK (us := []) (vs := []) F z hb hx I2 .nil rz l1 l2 q2
theorem km {pl : Sem Bool} (c : Cls X.K C) (hm : Meth X.K C m f)
    (F : Fg X k f fd ps sp) (z : RoomG k X.A) (hb : KBnD X.K fd ps (n + 1) ks gV)
    (hx : Ps X E) (he : PE X o ta) (ha : PA X (e :: es) t) (hkw : PK X kws tk)
    (hall : (backToKw pos (keywordEach kws X.env)).all (·.1.isSome) = true := by rfl)
    (hks : (backToKw pos (keywordEach kws X.env)).filterMap (·.1) = ks := by rfl)
    (hst : starEach (e :: es) X.env = (false, eval e X.env) :: starEach es X.env := by rfl)
    (hpl : ((backTo pos (starEach (e :: es) X.env)).any (·.1) ||
      (backToKw pos (keywordEach kws X.env)).any (·.1.isNone)) = false := by rfl)
    (ht : eval (.Call (.Attribute o m apos) (e :: es) kws pos) X.env = (do
      let y ← eval o X.env
      standAt apos.atName
      let (g, a) ← holding [y] (getMethod y m pl)
      callWith pos g a (backTo pos (starEach (e :: es) X.env))
        (backToKw pos (keywordEach kws X.env))) := by rfl) :
    PE X (.Call (.Attribute o m apos) (e :: es) kws pos) (tMw C m n ks.length sp gV E ta t tk) := by
  obtain ⟨g, hb⟩ := hb
  constructor
  intro pins s σ H Q I h
  refine PySem.W.methodCall_KW (pl := pl) (thn (he.run pins s σ H _ I h) ?_) ht
  intro u s1 y
  obtain ⟨v, H1, I1, rx, a, dx, fs, ex, ea, l, q⟩ := y
  subst ex
  obtain rfl : u = Value.ref a := rx
  refine getmeth_ok I1 ea c hm l ?_
  refine PySem.W.callWith_KW (first := [.ref a]) (h₀ := X.base) I.ok.mod.kin hm.kp hall ?_ hpl hst
  refine thn (ha.run pos pins s1 σ H1 _ I1 q) ?_
  intro us s2 y
  obtain ⟨vs, H2, I2, r, q2⟩ := y
  refine thn (hkw.run pos pins s2 σ H2 _ I2 q2) ?_
  intro ws s3 y
  obtain ⟨zs, H3, I3, rz, l1, l2, q3⟩ := y
  refine ⟨I3.kIn, ?_⟩
  rw [hks]
  exact runK (us := .ref a :: us) (vs := .ref a :: vs) F z hb hx I3 (.cons rfl r) rz (by rw [List.length_cons, l1]) l2 q3
theorem km0 {pl : Sem Bool} (c : Cls X.K C) (hm : Meth X.K C m f)
    (F : Fg X k f fd ps sp) (z : RoomG k X.A) (hb : KBnD X.K fd ps 1 ks gV)
    (hx : Ps X E) (he : PE X o ta) (hkw : PK X kws tk)
    (hall : (backToKw pos (keywordEach kws X.env)).all (·.1.isSome) = true := by rfl)
    (hks : (backToKw pos (keywordEach kws X.env)).filterMap (·.1) = ks := by rfl)
    (hpl : ((backTo pos (starEach [] X.env)).any (·.1) ||
      (backToKw pos (keywordEach kws X.env)).any (·.1.isNone)) = false := by rfl)
    (ht : eval (.Call (.Attribute o m apos) [] kws pos) X.env = (do
      let y ← eval o X.env
      standAt apos.atName
      let (g, a) ← holding [y] (getMethod y m pl)
      callWith pos g a (backTo pos (starEach [] X.env))
        (backToKw pos (keywordEach kws X.env))) := by rfl) :
    PE X (.Call (.Attribute o m apos) [] kws pos) (tMw C m 0 ks.length sp gV E ta tNil tk) := by
  obtain ⟨g, hb⟩ := hb
  constructor
  intro pins s σ H Q I h
  refine PySem.W.methodCall_KW (pl := pl) (thn (he.run pins s σ H _ I h) ?_) ht
  intro u s1 y
  obtain ⟨v, H1, I1, rx, a, dx, fs, ex, ea, l, q⟩ := y
  subst ex
  obtain rfl : u = Value.ref a := rx
  refine getmeth_ok I1 ea c hm l ?_
  refine PySem.W.callWith_KW0 (first := [.ref a]) (h₀ := X.base) I.ok.mod.kin hm.kp hall ?_ hpl
  refine thn (hkw.run pos pins s1 σ H1 _ I1 q) ?_
  intro ws s3 y
  obtain ⟨zs, H3, I3, rz, l1, l2, q3⟩ := y
  refine ⟨I3.kIn, ?_⟩
  rw [hks]
  exact runK (us := [.ref a]) (vs := [.ref a]) F z hb hx I3 (.cons rfl .nil) rz (by rw [List.length_singleton]) l2 q3
/-- a new instance, then its __init__ -/
def Made (C : Addr) (sp : Sp) (E : XK) (H : Hp) (Q : VK) (vs : Addr → List V) : Prop :=
  ∀ x dx, H x = none → H dx = none → dx ≠ x →
    sp (vs x) (upd (upd H dx (.own x)) x (.ins C dx [])) (fun v H2 => v = .non ∧ Q (.ref x) H2) E
theorem runM {vs : Addr → List V} (M : Mk X.K C f) (F : Fg X k f fd ps sp)
    (z : RoomG (k + 1) X.A) (hx : Ps X E) (I : Inv X pins σ H s) {us0 : List Value} {kw : List (Str × Value)}
    {us : Addr → List Value} (hb : ∀ (s : Shared) (x : Addr), X.K.In s.heap → BindsTo s fd ⟨.ref x :: us0, kw⟩ (ps.zip (us x)))
    (h : Made C sp E H Q vs)
    (rv : ∀ x, Vals (vs x) (us x)) :
    wpAny (model X.prog X.w) X.A (call (.ref C) us0 kw) (EP X pins σ Q) X.xe s := by
  have hq := h (s.heap.objs.size + 1) s.heap.objs.size (I.hok.fresh (Nat.le_succ _)) (I.hok.fresh (Nat.le_refl _))
    (Nat.ne_of_lt (Nat.lt_succ_self _))
  have I2 := Inv.made (C := C) I
  refine wpAny_call (make_map (f := f) I.kIn M.makes M.init (beq_iff_eq.mp M.fn) (codeAny_mono
    (F.run _ X.stack _ _ ⟨.ref (s.heap.objs.size + 1) :: us0, kw⟩ _ _ _ E (z.make C us0 kw)
      (I2.env0.make C us0 kw) (hb _ _ I2.kIn) (rv _) hq) ?_))
  intro r s' q
  match r, q with
  | .error e, q => exact hx pins σ _ _ e s' I2 q
  | .ok (.ret u), q =>
    obtain ⟨v, H', I3, rv, ev, q3⟩ := I2.after q
    subst ev
    exact ⟨rv, ⟨V.ref (s.heap.objs.size + 1), H', I3, rfl, q3⟩⟩
  | .ok .next, q => exact False.elim q
  | .ok .brk, q => exact False.elim q
  | .ok .cont, q => exact False.elim q
def tMk (C : Addr) (sp : Sp) (dvs : List V) (E : XK) (t : TA) : TE := fun σ H Q => t σ H fun vs H1 =>
  Made C sp E H1 Q fun x => .ref x :: (vs ++ dvs)
def tMkK (C : Addr) (n m : Nat) (sp : Sp) (gV : List V → List V → List V) (E : XK) (t tk : TA) : TE := fun σ H Q =>
  t σ H fun vs H1 => tk σ H1 fun zs H2 => vs.length = n ∧ zs.length = m ∧ Made C sp E H2 Q fun x => gV (.ref x :: vs) zs
theorem made_len {vs : Addr → List V} (F : Fg X k f fd ps sp) (I : Inv X pins σ H s) (h : Made C sp E H Q vs) :
    ∃ x, (vs x).length = ps.length := by
  have hq := h (s.heap.objs.size + 1) s.heap.objs.size (I.hok.fresh (Nat.le_succ _)) (I.hok.fresh (Nat.le_refl _))
    (Nat.ne_of_lt (Nat.lt_succ_self _))
  exact ⟨_, F.len _ _ _ _ hq⟩
theorem mk1 (M : Mk X.K C f) (F : Fg X k f fd ps sp) (z : RoomG (k + 1) X.A) (hg : Gl X x)
    (hm : X.mg x = some (.ref C)) (hb : BindsD X.K fd ps dvs) (hx : Ps X E) (ha : PA X (e :: es) t)
    (hdb : (x == ("__debug__" : Str)) = false := by decide)
    (he : starEach (e :: es) X.env = (false, eval e X.env) :: starEach es X.env := by rfl)
    (hpl : (backTo pos (starEach es X.env)).any (·.1) = false := by rfl) :
    PE X (.Call (.Name x p) (e :: es) [] pos) (tMk C sp dvs E t) := by
  obtain ⟨ds, hd, hb⟩ := hb
  constructor
  intro pins s σ H Q I h
  refine wpAny_Call_Name_kw (ld_glob I hg hm ?_ hdb)
  refine PySem.W.callWith_K (h₀ := X.base) I.ok.mod.kin M.kp ?_ he hpl
  refine thn (ha.run pos pins s σ H _ I h) ?_
  intro us s1 y
  obtain ⟨vs, H1, I1, r, q⟩ := y
  refine ⟨I1.kIn, ?_⟩
  obtain ⟨x0, hl⟩ := made_len F I1 q
  refine runM (us := fun x => .ref x :: (us ++ ds)) M F z hx I1 ?_ q (fun x => .cons rfl (r.append hd))
  intro s2 x2 kin
  refine hb s2 (.ref x2 :: us) kin ?_
  rw [← hl]
  have e1 := r.length
  have e2 := hd.length
  simp only [List.length_cons, List.length_append, List.cons_append] at *
  omega
theorem mk0 (M : Mk X.K C f) (F : Fg X k f fd ps sp) (z : RoomG (k + 1) X.A) (hg : Gl X x)
    (hm : X.mg x = some (.ref C)) (hb : BindsD X.K fd ps dvs) (hx : Ps X E)
    (hdb : (x == ("__debug__" : Str)) = false := by decide) :
    PE X (.Call (.Name x p) [] [] pos) (tMk C sp dvs E tNil) := by
  obtain ⟨ds, hd, hb⟩ := hb
  constructor
  intro pins s σ H Q I h
  refine wpAny_Call_Name_kw (ld_glob I hg hm ?_ hdb)
  refine PySem.W.callWith_K0 I.kIn M.kp ?_
  obtain ⟨x0, hl⟩ := made_len F I h
  refine runM (us0 := []) (us := fun x => .ref x :: ([] ++ ds)) M F z hx I ?_ h (fun x => .cons rfl (Vals.append .nil hd))
  intro s2 x2 kin
  refine hb s2 [.ref x2] kin ?_
  rw [← hl]
  have e2 := hd.length
  simp only [List.length_cons, List.length_append, List.cons_append, List.length_nil, List.nil_append] at *
  omega
theorem mkK (M : Mk X.K C f) (F : Fg X k f fd ps sp) (z : RoomG (k + 1) X.A) (hg : Gl X x)
    (hm : X.mg x = some (.ref C)) (hb : KBnD X.K fd ps (n + 1) ks gV) (hx : Ps X E) (ha : PA X (e :: es) t)
    (hkw : PK X kws tk)
    (hall : (backToKw pos (keywordEach kws X.env)).all (·.1.isSome) = true := by rfl)
    (hks : (backToKw pos (keywordEach kws X.env)).filterMap (·.1) = ks := by rfl)
    (hdb : (x == ("__debug__" : Str)) = false := by decide)
    (he : starEach (e :: es) X.env = (false, eval e X.env) :: starEach es X.env := by rfl)
    (hpl : ((backTo pos (starEach (e :: es) X.env)).any (·.1) ||
      (backToKw pos (keywordEach kws X.env)).any (·.1.isNone)) = false := by rfl) :
    PE X (.Call (.Name x p) (e :: es) kws pos) (tMkK C n ks.length sp gV E t tk) := by
  obtain ⟨g, hb⟩ := hb
  constructor
  intro pins s σ H Q I h
  refine wpAny_Call_Name_kw (ld_glob I hg hm ?_ hdb)
  refine PySem.W.callWith_KW (h₀ := X.base) I.ok.mod.kin M.kp hall ?_ hpl he
  refine thn (ha.run pos pins s σ H _ I h) ?_
  intro us s1 y
  obtain ⟨vs, H1, I1, r, q⟩ := y
  refine thn (hkw.run pos pins s1 σ H1 _ I1 q) ?_
  intro ws s2 y
  obtain ⟨zs, H2, I2, rz, l1, l2, q2⟩ := y
  refine ⟨I2.kIn, ?_⟩
  rw [hks]
  refine runM (us := fun x => g (.ref x :: us) ws) M F z hx I2 ?_ q2 (fun x => hb.rel (.cons rfl r) rz)
  intro s3 x3 kin
  refine hb.to s3 (.ref x3 :: us) ws kin ?_ (rz.length.symm.trans l2)
  rw [List.length_cons, ← r.length, l1]
theorem mkK0 (M : Mk X.K C f) (F : Fg X k f fd ps sp) (z : RoomG (k + 1) X.A) (hg : Gl X x)
    (hm : X.mg x = some (.ref C)) (hb : KBnD X.K fd ps 1 ks gV) (hx : Ps X E)
    (hkw : PK X kws tk)
    (hall : (backToKw pos (keywordEach kws X.env)).all (·.1.isSome) = true := by rfl)
    (hks : (backToKw pos (keywordEach kws X.env)).filterMap (·.1) = ks := by rfl)
    (hdb : (x == ("__debug__" : Str)) = false := by decide)
    (hpl : ((backTo pos (starEach [] X.env)).any (·.1) ||
      (backToKw pos (keywordEach kws X.env)).any (·.1.isNone)) = false := by rfl) :
    PE X (.Call (.Name x p) [] kws pos) (tMkK C 0 ks.length sp gV E tNil tk) := by
  obtain ⟨g, hb⟩ := hb
  constructor
  intro pins s σ H Q I h
  refine wpAny_Call_Name_kw (ld_glob I hg hm ?_ hdb)
  refine PySem.W.callWith_KW0 (h₀ := X.base) I.ok.mod.kin M.kp hall ?_ hpl
  refine thn (hkw.run pos pins s σ H _ I h) ?_
  intro ws s2 y
  obtain ⟨zs, H2, I2, rz, l1, l2, q2⟩ := y
  refine ⟨I2.kIn, ?_⟩
  rw [hks]
  refine runM (us0 := []) (us := fun x => g [.ref x] ws) M F z hx I2 ?_ q2 (fun x => hb.rel (.cons rfl .nil) rz)
  intro s3 x3 kin
  exact hb.to s3 [.ref x3] ws kin rfl (rz.length.symm.trans l2)
end
section
variable {P : Program} {w : World} {K : PySem.W.Frag} {mg : Str → Option Value} {base : Heap}
theorem okD {x qual : Str} {params : Arguments} {body : List Stmt} {scope : Scope} {dvs : List V} {kws : List (Str × V)}
    {f : Addr} {fd : FuncData} {N ps : List Str} {k : Nat} {sp : Sp}
    (F : FunD K x qual params body scope dvs kws f fd) (S : FnScope N ps scope)
    (len : ∀ vs H Q E, sp vs H Q E → vs.length = ps.length)
    (hb : ∀ (cdv : Value) (A : Around) (outer : List Env) (s : Shared) (H : Hp) (vs : List V)
      (Q : VK) (E : XK), RoomG k (A.deeper (envOfC qual scope s.heap.objs.size f cdv)) →
      sp vs H Q E →
      ∃ t, PSs (cxOf (L2.CX P w) P w K mg base N qual scope f cdv A outer s H E) body t ∧
        t { nx := fun _ H' => Q .non H', rt := Q } (start N vs) H) :
    FnG P w K mg base (k + 1) f fd ps sp := by
  obtain ⟨oc, od, dV, kV, doc, pm, an, cdv, ct, osl, rfl, lk, hcd, _, _⟩ := F.ex
  exact FnG.body lk hcd S len fun A outer s H vs Q E z h => hb cdv A outer s H vs Q E z h
end
/-! readings of these -/
section
variable {K : PySem.W.Frag} {σ : L2.St} {H : Hp} {Q : VK} {D : Ends} {a C dx p : Addr} {fs : List (Str × V)} {f m : Str} {v : V}
variable {ta tv : TE} {t tk : TA} {sp : Sp} {E : XK} {vs zs : List V} {gV : List V → List V → List V} {n k : Nat}
def MethR (C : Addr) (m : Str) (sp : Sp) (E : XK) (t : TA) (σ : L2.St) (x : V) (H1 : Hp) (Q : VK) : Prop :=
  ∃ a dx fs, x = .ref a ∧ H1 a = some (.ins C dx fs) ∧ fs.lookup m = none ∧ t σ H1 fun vs H2 => sp (x :: vs) H2 Q E
theorem i_meth (h : ta σ H fun x H1 => MethR C m sp E t σ x H1 Q) : tMeth C m sp [] E ta t σ H Q := by
  unfold tMeth
  simp only [List.append_nil]
  exact h
theorem i_methR (ho : H a = some (.ins C dx fs)) (hl : fs.lookup m = none)
    (h : t σ H fun vs H2 => sp (.ref a :: vs) H2 Q E) : MethR C m sp E t σ (.ref a) H Q := ⟨a, dx, fs, rfl, ho, hl, h⟩
def MethW (C : Addr) (nm : Str) (n m : Nat) (sp : Sp) (gV : List V → List V → List V) (E : XK) (t tk : TA) (σ : L2.St) (x : V)
    (H1 : Hp) (Q : VK) : Prop := ∃ a dx fs, x = .ref a ∧ H1 a = some (.ins C dx fs) ∧ fs.lookup nm = none ∧
    t σ H1 fun vs H2 => tk σ H2 fun zs H3 => vs.length = n ∧ zs.length = m ∧ sp (gV (x :: vs) zs) H3 Q E
theorem i_methW (h : ta σ H fun x H1 => MethW C m n k sp gV E t tk σ x H1 Q) : tMw C m n k sp gV E ta t tk σ H Q := h
theorem i_methWR (ho : H a = some (.ins C dx fs)) (hl : fs.lookup m = none)
    (h : t σ H fun vs H2 => tk σ H2 fun zs H3 => vs.length = n ∧ zs.length = k ∧ sp (gV (.ref a :: vs) zs) H3 Q E) :
    MethW C m n k sp gV E t tk σ (.ref a) H Q := ⟨a, dx, fs, rfl, ho, hl, h⟩
theorem i_lens {P : Prop} (h1 : vs.length = n) (h2 : zs.length = k) (h : P) : vs.length = n ∧ zs.length = k ∧ P := ⟨h1, h2, h⟩
theorem i_kw (h : t σ H fun vs H1 => tk σ H1 fun zs H2 => vs.length = n ∧ zs.length = k ∧ sp (gV vs zs) H2 Q E) :
    tKw n k sp gV E t tk σ H Q := h
theorem i_mk (h : t σ H fun vs H1 => Made C sp E H1 Q fun x => .ref x :: vs) : tMk C sp [] E t σ H Q := by
  unfold tMk
  simp only [List.append_nil]
  exact h
theorem i_mkD {dvs : List V} (h : t σ H fun vs H1 => Made C sp E H1 Q fun x => .ref x :: (vs ++ dvs)) : tMk C sp dvs E t σ H Q := h
theorem i_mkK (h : t σ H fun vs H1 => tk σ H1 fun zs H2 => vs.length = n ∧ zs.length = k ∧
    Made C sp E H2 Q fun x => gV (.ref x :: vs) zs) : tMkK C n k sp gV E t tk σ H Q := h
/-- an attribute -/
def FldR (K : PySem.W.Frag) (f : Str) (x : V) (H1 : Hp) (Q : VK) : Prop := ∃ a C dx fs v, x = .ref a ∧
  H1 a = some (.ins C dx fs) ∧ Cls K C ∧ NoAttr K C f ∧ fs.lookup f = some v ∧ Q v H1
theorem i_fld (h : ta σ H fun x H1 => FldR K f x H1 Q) : tFld K ta f σ H Q := h
theorem i_fldR (ho : H a = some (.ins C dx fs)) (c : Cls K C) (n : NoAttr K C f) (hl : fs.lookup f = some v)
    (h : Q v H) : FldR K f (.ref a) H Q := ⟨a, C, dx, fs, v, rfl, ho, c, n, hl, h⟩
def FldS (K : PySem.W.Frag) (f : Str) (y x : V) (D : Ends) (σ : L2.St) (H2 : Hp) : Prop := ∃ a C dx fs, x = .ref a ∧
  H2 a = some (.ins C dx fs) ∧ Cls K C ∧ NoAttr K C f ∧ fs.length < 1000 ∧ D.nx σ (upd H2 a (.ins C dx (putF f y fs)))
theorem i_fldS (h : tv σ H fun y H1 => ta σ H1 fun x H2 => FldS K f y x D σ H2) : sFld K ta tv f D σ H := h
theorem i_fldSR {y : V} (ho : H a = some (.ins C dx fs)) (c : Cls K C) (n : NoAttr K C f) (hl : fs.length < 1000)
    (h : D.nx σ (upd H a (.ins C dx (putF f y fs)))) : FldS K f y (.ref a) D σ H := ⟨a, C, dx, fs, rfl, ho, c, n, hl, h⟩
end
end G
namespace G
open PySem PySem.Spec PyProof.Rows L2
/-! the facts of the top -/
section
variable {K : PySem.W.Frag} {x qual : Str} {st : Stmt} {f D : Addr} {oc : Value} {od an : Option Addr} {osl : Array (Option Value)}
variable {kV doc pm cdv ct : Value} {ps : List Str}
theorem fund0 (l : K.lookup f = some ⟨oc, od, .func (PySem.W.fnOf x qual (defArgs st) (defBody st)
      (defScope st) .none kV doc pm an cdv ct), osl⟩)
    (c : PySem.W.codeIn K cdv qual = true) (k : PySem.W.keepIn K (.ref f) = true) :
    FunD K x qual (defArgs st) (defBody st) (defScope st) [] [] f
      (PySem.W.fnOf x qual (defArgs st) (defBody st) (defScope st) .none kV doc pm an cdv ct) :=
  ⟨⟨oc, od, .none, kV, doc, pm, an, cdv, ct, osl, rfl, l, c, .inl ⟨rfl, rfl⟩, .inl rfl⟩, k⟩
theorem fund1 {kws : List (Str × V)} (l : K.lookup f = some ⟨oc, od, .func (PySem.W.fnOf x qual (defArgs st) (defBody st)
      (defScope st) .none (.ref D) doc pm an cdv ct), osl⟩)
    (c : PySem.W.codeIn K cdv qual = true) (k : PySem.W.keepIn K (.ref f) = true)
    (q : ∀ q ∈ kws, ∃ u, PySem.W.nsIn K D q.1 = some (some u) ∧ RelV q.2 u) :
    FunD K x qual (defArgs st) (defBody st) (defScope st) [] kws f
      (PySem.W.fnOf x qual (defArgs st) (defBody st) (defScope st) .none (.ref D) doc pm an cdv ct) :=
  ⟨⟨oc, od, .none, .ref D, doc, pm, an, cdv, ct, osl, rfl, l, c, .inl ⟨rfl, rfl⟩, .inr ⟨D, rfl, q⟩⟩, k⟩
theorem kw_one {nm : Str} {v : V} {u : Value} (e : PySem.W.nsIn K D nm = some (some u)) (r : RelV v u) :
    ∀ q ∈ [(nm, v)], ∃ u, PySem.W.nsIn K D q.1 = some (some u) ∧ RelV q.2 u := fun q hq => by
  rw [List.mem_singleton.mp hq]
  exact ⟨u, e, r⟩
theorem kw_more {nm : Str} {v : V} {u : Value} {l : List (Str × V)} (e : PySem.W.nsIn K D nm = some (some u)) (r : RelV v u)
    (h : ∀ q ∈ l, ∃ u, PySem.W.nsIn K D q.1 = some (some u) ∧ RelV q.2 u) :
    ∀ q ∈ (nm, v) :: l, ∃ u, PySem.W.nsIn K D q.1 = some (some u) ∧ RelV q.2 u := fun q hq => by
  rcases List.mem_cons.mp hq with z | z
  · rw [z]
    exact ⟨u, e, r⟩
  · exact h q z
/-- positional values, then by places of what the keywords and the defaults give -/
def gp (idx : List Nat) {α : Type} (vs mz zs : List α) : List α := vs ++ idx.filterMap fun i => (zs ++ mz)[i]?
theorem vals_idx {vs : List V} {us : List Value} (r : Vals vs us) : ∀ idx : List Nat,
    Vals (idx.filterMap fun i => vs[i]?) (idx.filterMap fun i => us[i]?)
  | [] => .nil
  | i :: idx => by
    have ih := vals_idx r idx
    cases e : vs[i]? with
    | none =>
      have e2 := Vals.none_of r e
      rw [List.filterMap_cons_none e, List.filterMap_cons_none e2]
      exact ih
    | some v =>
      obtain ⟨u, e2, q⟩ := Vals.get r e
      rw [List.filterMap_cons_some e, List.filterMap_cons_some e2]
      exact .cons q ih
theorem gp_rel (idx : List Nat) {vs mz zs : List V} {us mv ws : List Value} (r : Vals vs us) (r1 : Vals mz mv) (r2 : Vals zs ws) :
    Vals (gp idx vs mz zs) (gp idx us mv ws) := r.append (vals_idx (r2.append r1) idx)
variable {params : Arguments} {body : List Stmt} {scope : Scope} {fd : FuncData} {kws : List (Str × V)}
theorem bindN (F : FunD K x qual params body scope [] [] f fd)
    (h : ∀ (kV doc pm : Value) (an : Option Addr) (cdv ct : Value) (us : List Value), us.length = ps.length →
      bindArgs (PySem.W.fnOf x qual params body scope .none kV doc pm an cdv ct) ⟨us, []⟩ = pure (ps.zip us)) :
    BindsD K fd ps [] := BindsD.plain (F.bindsN h)
theorem bindK (F : FunD K x qual params body scope [] kws f fd) (n : Nat) (hk : kws ≠ []) (hn : n + kws.length = ps.length)
    (h : ∀ (D : Addr) (doc pm : Value) (an : Option Addr) (cdv ct : Value) (us ks : List Value), us.length = n →
      ks.length = kws.length → KwChain D ((kws.map (·.1)).zip ks)
        (bindArgs (PySem.W.fnOf x qual params body scope .none (.ref D) doc pm an cdv ct) ⟨us, []⟩) (ps.zip (us ++ ks))) :
    BindsD K fd ps (kws.map (·.2)) := F.binds0 n hk hn h
theorem kbN (F : FunD K x qual params body scope [] [] f fd) (n : Nat) (ks : List Str) (idx : List Nat)
    (h : ∀ (kV doc pm : Value) (an : Option Addr) (cdv ct : Value) (us ws : List Value), us.length = n →
      ws.length = ks.length → bindArgs (PySem.W.fnOf x qual params body scope .none kV doc pm an cdv ct) ⟨us, ks.zip ws⟩ =
        pure (ps.zip (gp idx us [] ws))) : KBnD K fd ps n ks (fun vs zs => gp idx vs [] zs) := by
  refine ⟨fun us ws => gp idx us [] ws, ?_, fun r1 r2 => gp_rel idx r1 .nil r2⟩
  intro s us ws kin l1 l2
  obtain ⟨oc, od, dV, kV, doc, pm, an, cdv, ct, osl, rfl, lk, hcd, hD, hK⟩ := F.ex
  rcases hD with ⟨_, rfl⟩ | ⟨e, _⟩
  · exact .of_eq (h kV doc pm an cdv ct us ws l1 l2)
  · exact absurd rfl e
theorem kbK (F : FunD K x qual params body scope [] kws f fd) (n : Nat) (ks : List Str) (ms : List (Str × V)) (idx : List Nat)
    (hk : kws ≠ []) (hms : ∀ q ∈ ms, q ∈ kws)
    (h : ∀ (D : Addr) (doc pm : Value) (an : Option Addr) (cdv ct : Value) (us mv ws : List Value), us.length = n →
      mv.length = ms.length → ws.length = ks.length → KwChain D ((ms.map (·.1)).zip mv)
        (bindArgs (PySem.W.fnOf x qual params body scope .none (.ref D) doc pm an cdv ct) ⟨us, ks.zip ws⟩)
        (ps.zip (gp idx us mv ws))) : KBnD K fd ps n ks (fun vs zs => gp idx vs (ms.map (·.2)) zs) := by
  obtain ⟨mv, h⟩ := F.kbinds0 n ks ms (fun vs mz zs => gp idx vs mz zs) hk hms (fun r r1 r2 => gp_rel idx r r1 r2) h
  exact ⟨_, h⟩
end
end G
namespace G
open PySem PySem.Spec PyProof.Rows L2
section
variable {X : Cx} {K : PySem.W.Frag} {k n : Nat} {f C : Addr} {fd : FuncData} {ps : List Str} {sp : Sp}
variable {dvs : List V} {E : XK} {x m : Str} {p pos pos' : Pos} {e o value : Expr} {fl : Str} {ta tv : TE}
theorem d0 (F : Fg X k f fd ps sp) (z : RoomG k X.A) (hg : Gl X x) (hm : X.mg x = some (.ref f))
    (hk : PySem.W.keepIn X.K (.ref f) = true) (hb : BindsD X.K fd ps dvs)
    (hx : Ps X E) (hdb : (x == ("__debug__" : Str)) = false := by decide) :
    PE X (.Call (.Name x p) [] [] pos) (tCall sp dvs E tNil) := by
  obtain ⟨ds, hd, hb⟩ := hb
  exact c0 F z hg hm hk hb hd hx hdb
theorem k_sfld (h : X.K = K) (ha : PE X o ta) (hv : PE X value tv)
    (hs : swapsWith value (some (.Attribute o fl pos')) pos.line X.env = pure false) :
    PS X (.Assign [.Attribute o fl pos'] value pos) (sFld K ta tv fl) := h ▸ ps_fld ha hv hs
theorem k_pzip {e2 : Expr} {t : TA} {tpos : Pos} {elts : List Expr} {kk : Nat} (h : X.K = K) (hg : Gl X "zip") (hm : X.mg "zip" = none)
    (ha : PA X [e, e2] t) (hs : starEach [e, e2] X.env = (false, eval e X.env) :: starEach [e2] X.env := by rfl)
    (hpl : (backTo pos (starEach [e2] X.env)).any (·.1) = false := by rfl) :
    PI X (.Tuple elts kk tpos) (.Call (.Name "zip" p) [e, e2] [] pos) (iZip K t) := h ▸ pi_zip hg hm ha hs hpl
end
section
variable {K : PySem.W.Frag} {σ : L2.St} {H H1 : Hp} {Q : VK} {D : Ends} {tb : TS} {te : TE} {tt : TT} {g : TG}
variable {a b p q l C dx : Addr} {xs ys vs us : List V} {v x y : V} {fs : List (Str × V)} {f m : Str} {t ta : TE} {tr : TA} {sp : Sp} {E : XK}
variable {dvs : List V} {vn : List Nat}
theorem i_methD {t : TA} (h : ta σ H fun x H1 => MethR C m sp E (fun σ H Q => t σ H fun vs H' => Q (vs ++ dvs) H') σ x H1 Q) :
    tMeth C m sp dvs E ta t σ H Q := h
theorem i_isNn (h : Q (.bl true) H) : rIsN .non .non H Q := ⟨rfl, h⟩
theorem i_isNr (h : Q (.bl false) H) : rIsN (.ref a) .non H Q := ⟨rfl, h⟩
theorem i_isNi {n : Int} (h : Q (.bl false) H) : rIsN (.int n) .non H Q := ⟨rfl, h⟩
theorem i_notNn (h : Q (.bl false) H) : rNotN .non .non H Q := ⟨rfl, h⟩
theorem i_notNr (h : Q (.bl true) H) : rNotN (.ref a) .non H Q := ⟨rfl, h⟩
theorem i_notNi {n : Int} (h : Q (.bl true) H) : rNotN (.int n) .non H Q := ⟨rfl, h⟩
/-- a for over zip of two lists -/
def ForZ (K : PySem.W.Frag) (ws : List V) (g : TG) (tb : TS) (D : Ends) (σ : L2.St) (H : Hp) : Prop :=
  ∃ a b xs ys, ws = [.ref a, .ref b] ∧ SqL K H a xs ∧ SqL K H b ys ∧ ∃ W : Nat → Nat → L2.St → Hp → Prop,
    (∃ m, W 0 m σ H) ∧ ∀ i m σ H, W i m σ H → ((Itz K a b).stop i H ∧ D.nx σ H) ∨
      ((Itz K a b).go i H ∧ ∃ Nx : L2.St → Hp → Prop,
        (∀ σ' H', Nx σ' H' → ∃ m', m' < m ∧ W (i + 1) m' σ' H') ∧
        ∀ x H', (Itz K a b).yld i H x H' → g x σ H' fun σ2 H2 =>
          tb { D with nx := Nx, ct := Nx, bk := D.nx } σ2 H2)
theorem i_forZ (h : tr σ H fun ws H1 => ForZ K ws g tb D σ H1) : tFor (iZip K tr) g tb D σ H := h
theorem i_both (hx : SqL K H a xs) (hy : SqL K H b ys) (Pv : Nat → L2.St → Hp → Prop) (h0 : Pv 0 σ H)
    (hl : ∀ i σ H, Pv i σ H → SqL K H a xs ∧ SqL K H b ys)
    (st : ∀ i x y T σ H, xs[i]? = some x → ys[i]? = some y → Pv i σ H → Fr H T → g (.ref T) σ (upd H T (.tup [x, y])) fun σ2 H2 =>
      tb { D with nx := Pv (i + 1), ct := Pv (i + 1), bk := D.nx } σ2 H2)
    (hd : ∀ σ H, Pv (min xs.length ys.length) σ H → D.nx σ H) : ForZ K [.ref a, .ref b] g tb D σ H := by
  refine ⟨a, b, xs, ys, rfl, hx, hy, fun i m σ H => m = min xs.length ys.length - i ∧ i ≤ min xs.length ys.length ∧ Pv i σ H,
    ⟨_, rfl, Nat.zero_le _, h0⟩, ?_⟩
  rintro i m σ H ⟨rfl, hi, z⟩
  obtain ⟨qx, qy⟩ := hl i σ H z
  by_cases c : i < min xs.length ys.length
  · have c1 : i < xs.length := by omega
    have c2 : i < ys.length := by omega
    refine .inr ⟨⟨xs, ys, _, _, qx, qy, List.getElem?_eq_getElem c1, List.getElem?_eq_getElem c2⟩, Pv (i + 1),
      fun σ' H' w => ⟨_, by omega, rfl, by omega, w⟩, ?_⟩
    rintro v H' ⟨T, x', y', rfl, hT, rfl, f1, f2⟩
    exact st i x' y' T σ H (f1 xs qx) (f2 ys qy) z ⟨hT⟩
  · have e : i = min xs.length ys.length := by omega
    refine .inl ⟨⟨xs, ys, qx, qy, by omega⟩, hd σ H (by rw [← e]; exact z)⟩
/-- a comprehension over zip of two lists -/
def LcZ (K : PySem.W.Frag) (ws : List V) (g : TG) (tt : TT) (te : TE) (vs : List Nat) (σ : L2.St) (H1 : Hp) (Q : VK) : Prop :=
  ∃ a b xs ys, ws = [.ref a, .ref b] ∧ SqL K H1 a xs ∧ SqL K H1 b ys ∧ ∀ D, H1 D = none →
    ∃ W : Nat → Nat → Hp → Prop, (∃ m, W 0 m (upd H1 D (.lst []))) ∧ ∀ i m H, W i m H →
      ((Itz K a b).stop i H ∧ Q (.ref D) H) ∨ ((Itz K a b).go i H ∧ ∃ Nx : Hp → Prop,
        (∀ H', Nx H' → ∃ m', m' < m ∧ W (i + 1) m' H') ∧
        ∀ x H', (Itz K a b).yld i H x H' → g x (wipe σ vs) H' fun σ2 H2 => wipe σ2 vs = wipe σ vs ∧ tt σ2 H2 fun b H3 =>
          if b = true then te σ2 H3 fun y H4 => ∃ acc, H4 D = some (.lst acc) ∧ acc.length < sizeLine ∧
            Nx (upd H4 D (.lst (acc ++ [y]))) else Nx H3)
theorem i_lcZ (h : tr σ H fun ws H1 => LcZ K ws g tt te vn σ H1 Q) : tLc (iZip K tr) g tt te vn σ H Q := h
theorem i_eltz (hx : SqL K H a xs) (hy : SqL K H b ys) (Pv : Addr → Nat → Hp → Prop)
    (h0 : ∀ D, Fr H D → Pv D 0 (upd H D (.lst [])))
    (hl : ∀ D i H', Fr H D → Pv D i H' → SqL K H' a xs ∧ SqL K H' b ys)
    (st : ∀ D i x y T H', Fr H D → xs[i]? = some x → ys[i]? = some y → Pv D i H' → Fr H' T →
      g (.ref T) (wipe σ vn) (upd H' T (.tup [x, y])) fun σ2 H2 =>
      wipe σ2 vn = wipe σ vn ∧ tt σ2 H2 fun b H3 => if b = true then te σ2 H3 fun y H4 =>
        ∃ acc, H4 D = some (.lst acc) ∧ acc.length < sizeLine ∧ Pv D (i + 1) (upd H4 D (.lst (acc ++ [y])))
        else Pv D (i + 1) H3)
    (hd : ∀ D H', Fr H D → Pv D (min xs.length ys.length) H' → Q (.ref D) H') : LcZ K [.ref a, .ref b] g tt te vn σ H Q := by
  refine ⟨a, b, xs, ys, rfl, hx, hy, fun D hD => ⟨fun i m H => m = min xs.length ys.length - i ∧ i ≤ min xs.length ys.length ∧ Pv D i H,
    ⟨_, rfl, Nat.zero_le _, h0 D ⟨hD⟩⟩, ?_⟩⟩
  rintro i m H ⟨rfl, hi, z⟩
  obtain ⟨qx, qy⟩ := hl D i H ⟨hD⟩ z
  by_cases c : i < min xs.length ys.length
  · have c1 : i < xs.length := by omega
    have c2 : i < ys.length := by omega
    refine .inr ⟨⟨xs, ys, _, _, qx, qy, List.getElem?_eq_getElem c1, List.getElem?_eq_getElem c2⟩, Pv D (i + 1),
      fun H' w => ⟨_, by omega, rfl, by omega, w⟩, ?_⟩
    rintro v H' ⟨T, x', y', rfl, hT, rfl, f1, f2⟩
    exact st D i x' y' T H ⟨hD⟩ (f1 xs qx) (f2 ys qy) z ⟨hT⟩
  · have e : i = min xs.length ys.length := by omega
    refine .inl ⟨⟨xs, ys, qx, qy, by omega⟩, hd D H ⟨hD⟩ (by rw [← e]; exact z)⟩
/-- [v] * n -/
theorem i_rep {n : Int} (h : H l = some (.lst [v])) (h0 : 0 ≤ n) (h1 : n ≤ 1000000)
    (q : New H fun p => Q (.ref p) (upd H p (.lst (List.replicate n.toNat v)))) : rRep (.ref l) (.int n) H Q := by
  refine ⟨l, n, [v], rfl, rfl, h, by omega, by omega, ?_, fun p hp => ?_⟩
  · have e : ([v] : List V).length * n.toNat ≤ 1000000 := by
      rw [List.length_singleton]
      omega
    exact Nat.le_trans e (by decide)
  · have e : (List.replicate n.toNat [v]).flatten = List.replicate n.toNat v := by
      induction n.toNat with
      | zero => rfl
      | succ k ih => rw [List.replicate_succ, List.flatten_cons, ih, List.replicate_succ]; rfl
    rw [e]
    exact q p hp
/-- an object's entry -/
theorem Kp.upi {ws : List Addr} {H0 H1 : Hp} (k : Kp ws H0 H1) (h : H1 p = some (.ins C dx fs)) (hp : p ∈ ws) {o : HO} : Kp ws H0 (L2.upd H1 p o) :=
  k.trans (Kp.mut h (fun z => z) hp)
end
/-! ### runs and cells -/
def cells (ps : List (Int × Int)) : List Int := ps.flatMap fun p => List.replicate p.1.toNat p.2
def tag (c : Int) : Int × Int := (1, c)
end G
namespace G
open PySem PySem.Spec PyProof.Rows L2
section
variable {K : PySem.W.Frag} {σ : L2.St} {H H1 : Hp} {Q : VK} {a b p q l m C dx : Addr} {xs ys : List V} {fs : List (Str × V)} {o : HO}
variable {ds : List PyData} {ws : List Addr}
theorem i_addL (hx : H a = some (.lst xs)) (hy : H b = some (.lst ys)) (hz : xs.length + ys.length ≤ 1000000)
    (h : New H fun p => Q (.ref p) (upd H p (.lst (xs ++ ys)))) : uAdd K (.ref a) (.ref b) H Q :=
  .inr (.inr (.inl ⟨a, b, xs, ys, rfl, rfl, hx, hy, Nat.le_trans hz (by decide), h⟩))
theorem ld_ins (h : LD K H l ds) (hi : imms ds = true) (hq : H q = some (.ins C dx fs)) : LD K (upd H q o) l ds := by
  have k : Kp [q] H (L2.upd H q o) := Kp.mut hq (fun z => z) List.mem_cons_self
  refine h.kp k hi (not_one ?_)
  obtain ⟨vs, e, _⟩ := h
  intro z
  rw [z, hq] at e
  cases e
end
end G
namespace G
open L2 PySem
theorem fs_few {fs : List (Str × V)} (h : fs.length.blt 1000 = true) : fs.length < 1000 := by
  rw [Nat.blt_eq] at h
  exact h
end G
namespace G
open L2 PySem
theorem ld_push {K : PySem.W.Frag} {H0 H1 : Hp} {l : Addr} {vs : List V} {y : V} {ds : List PyData} {d : PyData} {ws : List Addr}
    (kp : Kp ws H0 H1) (h : DpAll K H0 vs ds) (hi : imms ds = true) (hv : H1 l = some (.lst (vs ++ [y]))) (hd : Dp K H1 y d) :
    LD K H1 l (ds ++ [d]) := ⟨_, hv, dpa_app (dpa_imm kp _ _ hi h) (dpa_one hd)⟩
end G
namespace G
open PySem PySem.Spec PyProof.Rows L2
/-! slices: read and written -/
section
variable {X : Cx} {o : Expr} {lo hi : Option Expr} {to : TE} {tl th : TO} {pos p2 : Pos}
def CutS (x : V) (i j : Option Int) (v : V) (H : Hp) (P : Hp → Prop) : Prop := ∃ l b xs ys a c, x = .ref l ∧ v = .ref b ∧
  i = some a ∧ j = some c ∧ H l = some (.lst xs) ∧ H b = some (.lst ys) ∧ l ≠ b ∧ 0 ≤ a ∧ a ≤ c ∧ c ≤ xs.length ∧
  xs.length + ys.length ≤ sizeLine ∧ P (upd H l (.lst (xs.take a.toNat ++ ys ++ xs.drop c.toNat)))
def gCut (to : TE) (tl th : TO) : TG := fun v σ H S => to σ H fun x H1 => tl σ H1 fun i H2 => th σ H2 fun j H3 =>
  CutS x i j v H3 fun H4 => S σ H4
theorem pg_cut (ho : PE X o to) (hl : PO X lo tl) (hu : PO X hi th)
    (ha : ∀ v, assign (.Subscript o (.Slice lo hi none p2) pos) X.env v = (do
      let ov ← holding [v] (eval o X.env)
      let iv ← holding [v, ov] (eval (.Slice lo hi none p2) X.env)
      standAt pos
      holding [v, ov, iv] (setItem ov iv v)
      release [iv, v, ov] []) := by intro _; rfl) :
    PG X (.Subscript o (.Slice lo hi none p2) pos) (gCut to tl th) := by
  constructor
  intro pins s σ H v u Q I r h
  rw [ha]
  refine wpAny_bind (wpAny_holding (thn (ho.run pins s σ H _ I h) ?_))
  rintro ov s1 ⟨x, H1, I1, r1, q1⟩
  refine wpAny_bind (wpAny_holding (PySem.wpAny_Slice (thn (hl.run pins s1 σ H1 _ I1 q1) ?_)))
  rintro vl s2 ⟨i, H2, I2, pl, q2⟩
  refine thn (hu.run pins s2 σ H2 _ I2 q2) ?_
  rintro vu s3 ⟨j, H3, I3, pu, q3⟩
  rw [evalPart_none]
  refine wpAny_pure ?_
  have I4 : Inv X pins σ H3 { s3 with heap := s3.heap.push { cls := .type "slice", data := .fields #[vl, vu, .none] } } :=
    I3.kept (t' := s3.toks) fun b ob z => Heap.get?_push_of_some _ z
  obtain ⟨l, b, xs, ys, a, c, rfl, rfl, rfl, rfl, e1, e2, ne, h0, hac, hc, hz, q⟩ := q3
  cases r1
  cases r
  cases pl
  rename_i ta
  cases pu
  rename_i tc
  refine wpAny_bind (wpAny_standAt (wpAny_bind (wpAny_holding ?_)))
  refine set_slice I4 e1 e2 ne (Heap.IsSliceOf.new ..) ⟨ta, rfl⟩ ⟨tc, rfl⟩ h0 hac hc hz ?_
  intro s5 I5
  exact wpAny_release ⟨σ, _, I5, q⟩
end
section
variable {K : PySem.W.Frag} {σ : L2.St} {H : Hp} {Q : VK} {a b l : Addr} {xs ys : List V} {r : V → Option Int → Option Int → Hp → VK → Prop}
variable {te to : TE} {tl th : TO} {P : Hp → Prop} {S : L2.St → Hp → Prop} {v x : V} {lo hi : Option Int} {R : Option Int → Hp → Prop}
theorem i_gCut (h : to σ H fun x H1 => tl σ H1 fun i H2 => th σ H2 fun j H3 => CutS x i j v H3 fun H4 => S σ H4) :
    gCut to tl th v σ H S := h
theorem i_cutS {i j : Int} (h1 : H l = some (.lst xs)) (h2 : H b = some (.lst ys)) (ne : l ≠ b) (h0 : 0 ≤ i ∧ i ≤ j ∧ j ≤ xs.length)
    (hz : xs.length + ys.length ≤ 1000000) (q : P (upd H l (.lst (xs.take i.toNat ++ ys ++ xs.drop j.toNat)))) :
    CutS (.ref l) (some i) (some j) (.ref b) H P :=
  ⟨l, b, xs, ys, i, j, rfl, rfl, rfl, rfl, h1, h2, ne, h0.1, h0.2.1, h0.2.2, Nat.le_trans hz (by decide), q⟩
theorem i_sl (h : te σ H fun x H1 => tl σ H1 fun l H2 => th σ H2 fun u H3 => r x l u H3 Q) : tSl r te tl th σ H Q := h
theorem i_part (h : te σ H fun x H1 => ∃ i, x = .int i ∧ R (some i) H1) : tPart te σ H R := h
theorem i_partI {n : Int} {P : Int → Prop} (h : P n) : ∃ i, V.int n = .int i ∧ P i := ⟨n, rfl, h⟩
theorem i_noPart (h : R none H) : tNoPart σ H R := h
theorem i_slL (h : SqL K H a xs) (q : New H fun p => Q (.ref p) (upd H p (.lst (cutV xs lo hi)))) : rSlL K (.ref a) lo hi H Q :=
  ⟨a, xs, rfl, h, q⟩
end
theorem cutV_mid {xs : List V} {i j : Int} (h : 0 ≤ i ∧ i ≤ j ∧ j ≤ xs.length) :
    cutV xs (some i) (some j) = (xs.drop i.toNat).take (j.toNat - i.toNat) := by
  obtain ⟨a, rfl⟩ := Int.eq_ofNat_of_zero_le h.1
  obtain ⟨c, rfl⟩ := Int.eq_ofNat_of_zero_le (Int.le_trans h.1 h.2.1)
  unfold cutV
  rw [HT.sIx_nat, HT.sIx_nat, Int.toNat_natCast, Int.toNat_natCast, Nat.min_eq_left (by omega), Nat.min_eq_left (by omega)]
theorem cutV_tail (x : V) (xs : List V) : cutV (x :: xs) (some 1) none = xs := by
  have e := HT.sIx_nat (x :: xs).length 0 1
  unfold cutV
  rw [show ((1 : Int)) = ((1 : Nat) : Int) from rfl, e, HT.sIx_none, List.length_cons, Nat.min_eq_left (by omega), List.drop_succ_cons, List.drop_zero]
  exact List.take_of_length_le (by omega)
theorem ix_nat {n j : Nat} (h : j < n) : ixN n (j : Int) = some j := by
  unfold ixN
  rw [if_pos (by omega), if_pos (by omega), Int.toNat_natCast]
theorem ix_int {n : Nat} {j : Int} (h0 : 0 ≤ j) (h : j < n) : ixN n j = some j.toNat := by
  unfold ixN
  rw [if_pos h0, if_pos h]
/-- one of two -/
theorem at_two {f : Nat → V} {r : Int} (h0 : 0 ≤ r) (h1 : r < 2) : atI [f 0, f 1] r = some (f r.toNat) := by
  have e : r = 0 ∨ r = 1 := by omega
  rcases e with rfl | rfl <;> rfl
end G
set_option Elab.async false
set_option linter.all false
set_option maxRecDepth 100000
set_option maxHeartbeats 4000000
namespace My
open PySem L2 G
local macro_rules | `(tactic| walk_at "g_tr") => `(tactic| first
  | with_reducible assumption
  | (with_reducible exact tr_of (by with_reducible assumption))
  | with_reducible exact tr_same
  | ((with_reducible refine tr_upd ?_); walk_at "g_tr")
  | (with_reducible exact tr_pot (by with_reducible assumption))
  | (with_reducible exact tr_ld (by with_reducible assumption))
  | ((with_reducible apply tr_kp (by with_reducible assumption) ?h); (case h => walk_at "g_tr")))
local macro_rules | `(tactic| walk_at "g_ne") => `(tactic| first
  | with_reducible assumption
  | (with_reducible exact Ne.symm (by with_reducible assumption))
  | ((with_reducible apply fr_tr ?h (by with_reducible assumption)); (case h => walk_at "g_tr"))
  | ((with_reducible apply Ne.symm (fr_tr ?h (by with_reducible assumption))); (case h => walk_at "g_tr")))
local macro_rules | `(tactic| walk_at "g_hp") => `(tactic| first
  | with_reducible assumption
  | with_reducible apply upd_same
  | ((with_reducible apply upd_nn ?h ?k); (case h => walk_at "g_ne"); (case k => walk_at "g_hp"))
  | ((with_reducible apply kp_at (by with_reducible assumption) ?h ?n); (case n => walk_at "g_ni"); (case h => walk_at "g_hp")))
local macro_rules | `(tactic| walk_at "g_ni") => `(tactic| first
  | exact not_nil
  | with_reducible assumption
  | ((with_reducible refine not_one ?_); walk_at "g_ne")
  | ((with_reducible refine not_two ?_ ?_) <;> walk_at "g_ne"))
local macro_rules | `(tactic| walk_at "g_pot") => `(tactic| first
  | with_reducible assumption
  | ((with_reducible apply pot_upd ?h ?n); (case n => walk_at "g_ne"); (case h => walk_at "g_pot"))
  | ((with_reducible apply PotAt.kp ?h (by with_reducible assumption) ?n); (case n => walk_at "g_ni"); (case h => walk_at "g_pot")))
local macro_rules | `(tactic| walk_at "g_ld") => `(tactic| first
  | with_reducible assumption
  | ((with_reducible apply ld_upd ?h ?i ?n); (case n => walk_at "g_fr"); (case i => walk_at "g_im"); (case h => walk_at "g_ld"))
  | ((with_reducible apply ld_upl ?h ?i ?n ?m); (case n => walk_at "g_hp"); (case m => walk_at "g_ne"); (case i => walk_at "g_im"); (case h => walk_at "g_ld"))
  | ((with_reducible apply ld_ins ?h ?i ?n); (case n => walk_at "g_hp"); (case i => walk_at "g_im"); (case h => walk_at "g_ld"))
  | ((with_reducible apply LD.kp ?h (by with_reducible assumption) ?i ?n); (case n => walk_at "g_ni"); (case i => walk_at "g_im"); (case h => walk_at "g_ld")))
local macro_rules | `(tactic| walk_at "g_im") => `(tactic| first
  | with_reducible assumption
  | exact imms_d2 _
  | rfl)
local macro_rules | `(tactic| walk_at "g_fx") => `(tactic| first
  | with_reducible assumption
  | with_reducible exact fx_refl
  | ((with_reducible apply fx_new ?h ?f); (case f => with_reducible assumption); (case h => walk_at "g_fx"))
  | ((with_reducible apply fx_mut ?h ?f ?g); (case f => walk_at "g_hp"); (case g => exact fun z => z); (case h => walk_at "g_fx"))
  | ((with_reducible apply fx_kp (by with_reducible assumption) ?h); (case h => walk_at "g_fx")))
local macro_rules | `(tactic| walk_at "g_st") => `(tactic| first
  | with_reducible assumption
  | ((with_reducible apply Fx.seqT ?k (by with_reducible assumption)); (case k => walk_at "g_fx"))
  | ((with_reducible apply SqT.of ?h); (case h => walk_at "g_hp")))
local macro_rules | `(tactic| walk_at "g_sq") => `(tactic| first
  | with_reducible assumption
  | ((with_reducible apply SqL.of ?h); (case h => walk_at "g_hp"))
  | ((with_reducible apply sqL_new ?h (by with_reducible assumption)); (case h => walk_at "g_sq"))
  | ((with_reducible apply sqL_kp (by with_reducible assumption) ?h ?n); (case h => walk_at "g_sq"); (case n => walk_at "g_ni")))
local macro_rules | `(tactic| walk_at "g_kp") => `(tactic| first
  | with_reducible assumption
  | with_reducible exact Kp.refl
  | with_reducible exact Kp.wide (by with_reducible assumption)
  | ((with_reducible apply Kp.trans ?k (by with_reducible assumption)); (case k => walk_at "g_kp"))
  | ((with_reducible apply Kp.trans ?k (Kp.wide (by with_reducible assumption))); (case k => walk_at "g_kp"))
  | ((with_reducible apply Kp.trans ?k (Kp.mono (by with_reducible assumption) ?m)); (case m => simp only [List.mem_cons, List.not_mem_nil, or_false, forall_eq, true_or, or_true, List.mem_singleton, implies_true]); (case k => walk_at "g_kp"))
  | ((with_reducible apply Kp.upd ?k ?h); (case h => walk_at "g_fr"); (case k => walk_at "g_kp"))
  | ((with_reducible apply Kp.upi ?k ?h ?m); (case h => walk_at "g_hp"); (case m => simp only [List.mem_cons, true_or, or_true]); (case k => walk_at "g_kp"))
  | ((with_reducible apply Kp.upm ?k ?h ?m); (case h => walk_at "g_hp"); (case m => simp only [List.mem_cons, true_or, or_true]); (case k => walk_at "g_kp")))
local macro_rules | `(tactic| walk_at "g_old") => `(tactic| first
  | with_reducible exact Old.refl
  | ((with_reducible apply old_upd ?k); (case k => walk_at "g_old"))
  | ((with_reducible apply old_kp (by with_reducible assumption) ?k); (case k => walk_at "g_old")))
local macro_rules | `(tactic| walk_at "g_fr") => `(tactic| first
  | with_reducible assumption
  | ((with_reducible apply fr_of (by with_reducible assumption) ?o); (case o => walk_at "g_old")))
local macro_rules | `(tactic| walk_at "g_at") => `(tactic| first
  | assumption
  | exact atI_last _ _
  | exact at_zero
  | rfl)
local macro_rules | `(tactic| walk_at "g_sz") => `(tactic| first
  | assumption
  | ((with_reducible apply small_sz); (try simp only [List.length_append, List.length_cons, List.length_nil]); omega))
local macro_rules | `(tactic| walk_at "g1") => `(tactic| first
  | (with_reducible refine i_seq ?_)
  | (with_reducible refine i_set ?_)
  | ((with_reducible apply i_var ?h ?_); (case h => exact rfl))
  | (with_reducible refine i_c ?_)
  | (with_reducible refine i_ret ?_)
  | (with_reducible refine i_op ?_)
  | (with_reducible refine i_addI ?_)
  | (with_reducible refine i_I0 ?_)
  | (with_reducible refine i_ifS ?_)
  | (with_reducible refine i_test ?_)
  | (with_reducible refine i_bl ?_)
  | (with_reducible refine i_eqI ?_)
  | (with_reducible refine i_neI ?_)
  | (with_reducible refine i_eqS ?_)
  | (with_reducible refine i_neS ?_)
  | (with_reducible refine i_and ?_)
  | (with_reducible refine i_or ?_)
  | (with_reducible refine i_not ?_)
  | (with_reducible refine i_asg ?_)
  | (with_reducible refine i_drop ?_)
  | (with_reducible refine i_cons ?_)
  | (with_reducible refine i_nil ?_)
  | (with_reducible refine i_tup ?_)
  | (with_reducible refine i_lst ?_)
  | (with_reducible refine i_few (by simp only [List.length_cons, List.length_nil]; decide) ?_)
  | (with_reducible refine i_CB ?_)
  | (with_reducible refine i_call0 ?_)
  | (with_reducible refine i_call ?_)
  | (with_reducible refine i_BM ?_)
  | (with_reducible refine i_BM0 ?_)
  | (with_reducible refine i_un ?_)
  | (with_reducible refine i_U ?_)
  | (with_reducible refine i_iteT ?_)
  | (with_reducible refine i_iteF ?_)
  | (with_reducible refine i_ntT ?_)
  | (with_reducible refine i_ntF ?_)
  | (with_reducible refine i_next ?_)
  | (with_reducible refine i_retN ?_)
  | (with_reducible refine i_brk ?_)
  | (with_reducible refine i_cont ?_)
  | ((with_reducible apply i_aug ?h ?_); (case h => exact rfl))
  | (with_reducible refine i_ipI ?_)
  | (with_reducible refine i_par ?_)
  | (with_reducible refine i_two ?_)
  | (with_reducible refine i_B ?_)
  | (with_reducible refine i_andV ?_)
  | (with_reducible refine i_orV ?_)
  | (with_reducible refine i_notV ?_)
  | (with_reducible refine i_ifE ?_)
  | (with_reducible refine i_chain ?_)
  | (with_reducible refine i_forL ?_)
  | (with_reducible refine i_forR ?_)
  | (with_reducible refine i_lcL ?_)
  | (with_reducible refine i_lcR ?_)
  | ((with_reducible refine i_wipe ?e ?_); (case e => rfl))
  | (with_reducible refine i_yes ?_)
  | ((with_reducible apply i_tyL ?h ?_); (case h => walk_at "g_sq"))
  | ((with_reducible apply i_app ?h ?g ?_); (case h => walk_at "g_hp"); (case g => walk_at "g_sz"))
  | ((with_reducible apply i_lenO ?h ?g ?_); (case h => walk_at "g_hp"); (case g => exact rfl))
  | ((with_reducible apply i_lenL ?h ?_); (case h => walk_at "g_sq"))
  | ((with_reducible apply i_lenT ?h ?_); (case h => walk_at "g_st"))
  | ((with_reducible apply i_gTup ?h ?g ?_); (case h => walk_at "g_st"); (case g => rfl))
  | ((with_reducible apply i_setL ?h ?g ?_); (case h => walk_at "g_hp"); (case g => first | (simp only [List.length_append, List.length_cons, List.length_nil]; exact ix_last _) | (simp only [List.length_cons]; exact ix_zero _) | rfl))
  | (with_reducible refine i_gCons ?_)
  | (with_reducible refine i_gNil ?_)
  | (with_reducible refine i_gName ?_)
  | (with_reducible refine i_gSub ?_)
  | (with_reducible refine i_revL ?_)
  | ((with_reducible apply i_revd ?h ?g); (case h => walk_at "g_sq"))
  | ((with_reducible apply i_ins0 ?h ?g ?k); (case h => walk_at "g_hp"); (case g => walk_at "g_sz"))
  | ((with_reducible apply i_ixS (by with_reducible assumption) ?k ?g ?_); (case k => walk_at "g_fx"); (case g => walk_at "g_at"))
  | ((with_reducible apply i_ixO ?h ?g ?_); (case h => walk_at "g_hp"); (case g => walk_at "g_at"))
  | ((with_reducible apply i_ixL ?h ?g ?_); (case h => walk_at "g_sq"); (case g => walk_at "g_at"))
  | (with_reducible refine i_abs ?_)
  | (with_reducible refine i_max2 ?_)
  | (with_reducible refine i_min2 ?_)
  | (with_reducible refine i_pw6 ?_)
  | (with_reducible refine i_pw16 ?_)
  | (with_reducible refine i_pw18 ?_)
  | (with_reducible refine i_pw58 ?_)
  | (with_reducible refine i_pw59 ?_)
  | (with_reducible refine i_pw60 ?_)
  | (with_reducible refine i_pw61 ?_)
  | ((with_reducible refine i_mod ?c ?_); (case c => omega))
  | ((with_reducible refine i_div ?c ?d ?_); (case c => omega); (case d => omega))
  | ((with_reducible refine i_dm ?c ?d ?_); (case c => omega); (case d => omega))
  | ((with_reducible apply i_listL ?h ?g); (case h => walk_at "g_sq"))
  | ((with_reducible apply i_listT ?h ?g); (case h => walk_at "g_st"))
  | (with_reducible refine i_isNn ?_)
  | (with_reducible refine i_isNr ?_)
  | (with_reducible refine i_isNi ?_)
  | (with_reducible refine i_notNn ?_)
  | (with_reducible refine i_notNr ?_)
  | (with_reducible refine i_notNi ?_)
  | (with_reducible refine i_meth ?_)
  | (with_reducible refine i_methD ?_)
  | ((with_reducible apply i_methR ?h ?g ?_); (case h => walk_at "g_hp"); (case g => exact rfl))
  | (walk_at "g_own")
  | (with_reducible refine i_methW ?_)
  | ((with_reducible apply i_methWR ?h ?g ?_); (case h => walk_at "g_hp"); (case g => exact rfl))
  | ((with_reducible apply i_lens ?h ?g ?_); (case h => exact rfl); (case g => exact rfl))
  | (with_reducible refine i_kw ?_)
  | (with_reducible refine i_mk ?_)
  | (with_reducible refine i_mkD ?_)
  | (with_reducible refine i_mkK ?_)
  | (with_reducible refine i_fld ?_)
  | ((with_reducible apply i_fldR ?h ?c ?n ?g ?_); (case h => walk_at "g_hp"); (case c => with_reducible assumption); (case n => with_reducible assumption); (case g => exact rfl))
  | (with_reducible refine i_fldS ?_)
  | ((with_reducible apply i_fldSR ?h ?c ?n ?g ?_); (case h => walk_at "g_hp"); (case c => with_reducible assumption); (case n => with_reducible assumption); (case g => exact fs_few (by rfl)))
  | (with_reducible refine i_gCut ?_)
  | (with_reducible refine i_sl ?_)
  | (with_reducible refine i_part ?_)
  | (with_reducible refine i_partI ?_)
  | (with_reducible refine i_noPart ?_)
  | ((with_reducible apply i_slL ?h ?_); (case h => walk_at "g_sq"))
  | (with_reducible refine i_forZ ?_)
  | (with_reducible refine i_lcZ ?_)
  | ((with_reducible apply i_addL ?h ?g ?z ?_); (case h => walk_at "g_hp"); (case g => walk_at "g_hp"); (case z => (try simp only [List.length_append, List.length_cons, List.length_nil, List.length_map]); omega))
  | ((with_reducible refine i_mulI ?c ?_); (case c => first | exact Or.inl ⟨by omega, by omega⟩ | exact Or.inr ⟨by omega, by omega⟩)))
local macro_rules | `(tactic| walk_at "gr") => `(tactic| first | ((walk_at "g1"); (walk_at "gr")) | skip)
local macro_rules | `(tactic| walk_at "gs") => `(tactic| (walk_at "gr"))

def top (i : Nat) : Stmt := PySem.Challenge.pw_forkthrift_k41_columns.main.body.getD i (.Pass ⟨0, 0, 0, 0⟩)
abbrev s_wall : Stmt := top 0
abbrev s_ends_of : Stmt := top 2
abbrev s_spread : Stmt := top 3
abbrev s_columns : Stmt := top 4
abbrev s_is_number : Stmt := top 14
abbrev s_is_whole : Stmt := top 15
abbrev s_is_size : Stmt := top 16
abbrev s_is_run : Stmt := top 17
abbrev s_are_runs : Stmt := top 18
abbrev s_joined : Stmt := top 19
abbrev s_cut_out : Stmt := top 20
abbrev s_want_size : Stmt := top 22
abbrev s_want_number : Stmt := top 23
abbrev s_want_cell : Stmt := top 24
abbrev s_want_stretch : Stmt := top 25
abbrev s_Memory_init : Stmt := inClass (top 26) 0
abbrev s_Memory_size : Stmt := inClass (top 26) 1
abbrev s_Memory_at : Stmt := inClass (top 26) 2
abbrev s_Memory_runs : Stmt := inClass (top 26) 3
abbrev s_Memory_lay : Stmt := inClass (top 26) 4
abbrev s_Memory_put : Stmt := inClass (top 26) 5
abbrev s_Memory_fill : Stmt := inClass (top 26) 6
abbrev s_Memory_bring : Stmt := inClass (top 26) 7
abbrev s_Memory_copied : Stmt := inClass (top 26) 8
abbrev s_Memory_eq : Stmt := inClass (top 26) 9
abbrev s_Memory_len : Stmt := inClass (top 26) 10
abbrev s_Memory_repr : Stmt := inClass (top 26) 11
abbrev s_memory_of : Stmt := top 27
abbrev s_law_pot : Stmt := top 29
abbrev s_law_take : Stmt := top 30
abbrev s_law_among : Stmt := top 31
abbrev s_law_wide : Stmt := top 32
abbrev s_law_number : Stmt := top 33
abbrev s_law_part : Stmt := top 34
abbrev s_law_joined : Stmt := top 35
abbrev s_law_row : Stmt := top 37
abbrev s_law_columns : Stmt := top 38
abbrev s_law_shown : Stmt := top 39
abbrev s_law_worlds : Stmt := top 40
abbrev s_law_right : Stmt := top 41
abbrev s_law : Stmt := top 42
def tyNames : List String := ["NoneType", "int", "bool", "str", "list", "tuple", "dict"]
theorem kit_other {K : PySem.W.Frag} {C : Addr} (hc : PySem.W.isClsIn K C = true) (ht : PySem.W.typeIn K (.ref C) = some (.type "type")) {n : String} (h : PySem.W.subIn K (.type n) (.ref C) = some false) : PySem.W.kitOne K (.type n) (.ref C) = some false := by
  unfold PySem.W.kitOne PySem.W.kitCls
  unfold PySem.W.isClsIn at hc
  rw [if_neg (by simp)]
  simp only [hc, ht, h, beq_self_eq_true, Bool.and_self, if_true]
theorem kit_me {K : PySem.W.Frag} {C : Addr} : PySem.W.kitOne K (.ref C) (.ref C) = some true := by
  unfold PySem.W.kitOne
  rw [if_pos (by simp)]
/-- what the top leaves -/
structure Txt (K : PySem.W.Frag) (mg : Str → Option Value) where
  c_Memory : Addr
  cl_Memory : Cls K c_Memory
  mg_Memory : mg "Memory" = some (.ref c_Memory)
  na_Memory_pairs : NoAttr K c_Memory "pairs"
  na_Memory_wide : NoAttr K c_Memory "wide"
  ic_Memory : C8.InsC K c_Memory
  ot_Memory : ∀ n ∈ tyNames, PySem.W.kitOne K (.type n) (.ref c_Memory) = some false
  ne_Memory : PySem.W.findIn K (.ref c_Memory) "__ne__" = some (some (.builtin "object.__ne__"))
  a_wall : Addr
  d_wall : FuncData
  F_wall : FunD K "_wall" "_wall" (defArgs s_wall) (defBody s_wall) (defScope s_wall) [] ([] : List (Str × V)) a_wall d_wall
  m_wall : mg "_wall" = some (.ref a_wall)
  b_wall : BindsD K d_wall ["k"] []
  a_ends_of : Addr
  d_ends_of : FuncData
  F_ends_of : FunD K "ends_of" "ends_of" (defArgs s_ends_of) (defBody s_ends_of) (defScope s_ends_of) [] ([] : List (Str × V)) a_ends_of d_ends_of
  m_ends_of : mg "ends_of" = some (.ref a_ends_of)
  b_ends_of : BindsD K d_ends_of ["memory"] []
  a_spread : Addr
  d_spread : FuncData
  F_spread : FunD K "spread" "spread" (defArgs s_spread) (defBody s_spread) (defScope s_spread) [] ([] : List (Str × V)) a_spread d_spread
  m_spread : mg "spread" = some (.ref a_spread)
  b_spread : BindsD K d_spread ["memory", "ends"] []
  a_columns : Addr
  d_columns : FuncData
  F_columns : FunD K "columns" "columns" (defArgs s_columns) (defBody s_columns) (defScope s_columns) [] ([] : List (Str × V)) a_columns d_columns
  m_columns : mg "columns" = some (.ref a_columns)
  b_columns : BindsD K d_columns ["memories"] []
  a_is_number : Addr
  d_is_number : FuncData
  F_is_number : FunD K "is_number" "is_number" (defArgs s_is_number) (defBody s_is_number) (defScope s_is_number) [] ([] : List (Str × V)) a_is_number d_is_number
  m_is_number : mg "is_number" = some (.ref a_is_number)
  b_is_number : BindsD K d_is_number ["thing"] []
  a_is_whole : Addr
  d_is_whole : FuncData
  F_is_whole : FunD K "is_whole" "is_whole" (defArgs s_is_whole) (defBody s_is_whole) (defScope s_is_whole) [] ([] : List (Str × V)) a_is_whole d_is_whole
  m_is_whole : mg "is_whole" = some (.ref a_is_whole)
  b_is_whole : BindsD K d_is_whole ["thing", "least", "most"] []
  a_is_size : Addr
  d_is_size : FuncData
  F_is_size : FunD K "is_size" "is_size" (defArgs s_is_size) (defBody s_is_size) (defScope s_is_size) [] ([] : List (Str × V)) a_is_size d_is_size
  m_is_size : mg "is_size" = some (.ref a_is_size)
  b_is_size : BindsD K d_is_size ["thing"] []
  a_is_run : Addr
  d_is_run : FuncData
  F_is_run : FunD K "is_run" "is_run" (defArgs s_is_run) (defBody s_is_run) (defScope s_is_run) [] ([] : List (Str × V)) a_is_run d_is_run
  m_is_run : mg "is_run" = some (.ref a_is_run)
  b_is_run : BindsD K d_is_run ["thing"] []
  a_are_runs : Addr
  d_are_runs : FuncData
  F_are_runs : FunD K "are_runs" "are_runs" (defArgs s_are_runs) (defBody s_are_runs) (defScope s_are_runs) [] ([] : List (Str × V)) a_are_runs d_are_runs
  m_are_runs : mg "are_runs" = some (.ref a_are_runs)
  b_are_runs : BindsD K d_are_runs ["thing", "size"] []
  a_joined : Addr
  d_joined : FuncData
  F_joined : FunD K "joined" "joined" (defArgs s_joined) (defBody s_joined) (defScope s_joined) [] ([] : List (Str × V)) a_joined d_joined
  m_joined : mg "joined" = some (.ref a_joined)
  b_joined : BindsD K d_joined ["pairs"] []
  a_cut_out : Addr
  d_cut_out : FuncData
  F_cut_out : FunD K "cut_out" "cut_out" (defArgs s_cut_out) (defBody s_cut_out) (defScope s_cut_out) [] ([] : List (Str × V)) a_cut_out d_cut_out
  m_cut_out : mg "cut_out" = some (.ref a_cut_out)
  b_cut_out : BindsD K d_cut_out ["pairs", "begin", "end"] []
  a_want_size : Addr
  d_want_size : FuncData
  F_want_size : FunD K "want_size" "want_size" (defArgs s_want_size) (defBody s_want_size) (defScope s_want_size) [] ([] : List (Str × V)) a_want_size d_want_size
  m_want_size : mg "want_size" = some (.ref a_want_size)
  b_want_size : BindsD K d_want_size ["thing"] []
  a_want_number : Addr
  d_want_number : FuncData
  F_want_number : FunD K "want_number" "want_number" (defArgs s_want_number) (defBody s_want_number) (defScope s_want_number) [] ([] : List (Str × V)) a_want_number d_want_number
  m_want_number : mg "want_number" = some (.ref a_want_number)
  b_want_number : BindsD K d_want_number ["thing"] []
  a_want_cell : Addr
  d_want_cell : FuncData
  F_want_cell : FunD K "want_cell" "want_cell" (defArgs s_want_cell) (defBody s_want_cell) (defScope s_want_cell) [] ([] : List (Str × V)) a_want_cell d_want_cell
  m_want_cell : mg "want_cell" = some (.ref a_want_cell)
  b_want_cell : BindsD K d_want_cell ["thing", "size"] []
  a_want_stretch : Addr
  d_want_stretch : FuncData
  F_want_stretch : FunD K "want_stretch" "want_stretch" (defArgs s_want_stretch) (defBody s_want_stretch) (defScope s_want_stretch) [] ([] : List (Str × V)) a_want_stretch d_want_stretch
  m_want_stretch : mg "want_stretch" = some (.ref a_want_stretch)
  b_want_stretch : BindsD K d_want_stretch ["begin", "end", "size"] []
  a_Memory_init : Addr
  d_Memory_init : FuncData
  F_Memory_init : FunD K "__init__" "Memory.__init__" (defArgs s_Memory_init) (defBody s_Memory_init) (defScope s_Memory_init) [] ([("number", V.int 0)] : List (Str × V)) a_Memory_init d_Memory_init
  mk_Memory : Mk K c_Memory a_Memory_init
  b_Memory_init : BindsD K d_Memory_init ["self", "size", "number"] [V.int 0]
  a_Memory_size : Addr
  d_Memory_size : FuncData
  F_Memory_size : FunD K "size" "Memory.size" (defArgs s_Memory_size) (defBody s_Memory_size) (defScope s_Memory_size) [] ([] : List (Str × V)) a_Memory_size d_Memory_size
  me_Memory_size : Meth K c_Memory "size" a_Memory_size
  b_Memory_size : BindsD K d_Memory_size ["self"] []
  a_Memory_at : Addr
  d_Memory_at : FuncData
  F_Memory_at : FunD K "at" "Memory.at" (defArgs s_Memory_at) (defBody s_Memory_at) (defScope s_Memory_at) [] ([] : List (Str × V)) a_Memory_at d_Memory_at
  me_Memory_at : Meth K c_Memory "at" a_Memory_at
  b_Memory_at : BindsD K d_Memory_at ["self", "cell"] []
  a_Memory_runs : Addr
  d_Memory_runs : FuncData
  F_Memory_runs : FunD K "runs" "Memory.runs" (defArgs s_Memory_runs) (defBody s_Memory_runs) (defScope s_Memory_runs) [] ([] : List (Str × V)) a_Memory_runs d_Memory_runs
  me_Memory_runs : Meth K c_Memory "runs" a_Memory_runs
  b_Memory_runs : BindsD K d_Memory_runs ["self"] []
  a_Memory_lay : Addr
  d_Memory_lay : FuncData
  F_Memory_lay : FunD K "lay" "Memory.lay" (defArgs s_Memory_lay) (defBody s_Memory_lay) (defScope s_Memory_lay) [] ([] : List (Str × V)) a_Memory_lay d_Memory_lay
  me_Memory_lay : Meth K c_Memory "lay" a_Memory_lay
  b_Memory_lay : BindsD K d_Memory_lay ["self", "begin", "pairs", "end"] []
  a_Memory_put : Addr
  d_Memory_put : FuncData
  F_Memory_put : FunD K "put" "Memory.put" (defArgs s_Memory_put) (defBody s_Memory_put) (defScope s_Memory_put) [] ([] : List (Str × V)) a_Memory_put d_Memory_put
  me_Memory_put : Meth K c_Memory "put" a_Memory_put
  b_Memory_put : BindsD K d_Memory_put ["self", "cell", "number"] []
  a_Memory_fill : Addr
  d_Memory_fill : FuncData
  F_Memory_fill : FunD K "fill" "Memory.fill" (defArgs s_Memory_fill) (defBody s_Memory_fill) (defScope s_Memory_fill) [] ([] : List (Str × V)) a_Memory_fill d_Memory_fill
  me_Memory_fill : Meth K c_Memory "fill" a_Memory_fill
  b_Memory_fill : BindsD K d_Memory_fill ["self", "begin", "end", "number"] []
  a_Memory_bring : Addr
  d_Memory_bring : FuncData
  F_Memory_bring : FunD K "bring" "Memory.bring" (defArgs s_Memory_bring) (defBody s_Memory_bring) (defScope s_Memory_bring) [] ([("source", V.non)] : List (Str × V)) a_Memory_bring d_Memory_bring
  me_Memory_bring : Meth K c_Memory "bring" a_Memory_bring
  b_Memory_bring : BindsD K d_Memory_bring ["self", "begin", "end", "to", "source"] [V.non]
  a_Memory_copied : Addr
  d_Memory_copied : FuncData
  F_Memory_copied : FunD K "copied" "Memory.copied" (defArgs s_Memory_copied) (defBody s_Memory_copied) (defScope s_Memory_copied) [] ([] : List (Str × V)) a_Memory_copied d_Memory_copied
  me_Memory_copied : Meth K c_Memory "copied" a_Memory_copied
  b_Memory_copied : BindsD K d_Memory_copied ["self"] []
  a_Memory_eq : Addr
  d_Memory_eq : FuncData
  F_Memory_eq : FunD K "__eq__" "Memory.__eq__" (defArgs s_Memory_eq) (defBody s_Memory_eq) (defScope s_Memory_eq) [] ([] : List (Str × V)) a_Memory_eq d_Memory_eq
  me_Memory_eq : Meth K c_Memory "__eq__" a_Memory_eq
  b_Memory_eq : BindsD K d_Memory_eq ["self", "other"] []
  a_Memory_len : Addr
  d_Memory_len : FuncData
  F_Memory_len : FunD K "__len__" "Memory.__len__" (defArgs s_Memory_len) (defBody s_Memory_len) (defScope s_Memory_len) [] ([] : List (Str × V)) a_Memory_len d_Memory_len
  me_Memory_len : Meth K c_Memory "__len__" a_Memory_len
  b_Memory_len : BindsD K d_Memory_len ["self"] []
  a_Memory_repr : Addr
  d_Memory_repr : FuncData
  F_Memory_repr : FunD K "__repr__" "Memory.__repr__" (defArgs s_Memory_repr) (defBody s_Memory_repr) (defScope s_Memory_repr) [] ([] : List (Str × V)) a_Memory_repr d_Memory_repr
  me_Memory_repr : Meth K c_Memory "__repr__" a_Memory_repr
  b_Memory_repr : BindsD K d_Memory_repr ["self"] []
  a_memory_of : Addr
  d_memory_of : FuncData
  F_memory_of : FunD K "memory_of" "memory_of" (defArgs s_memory_of) (defBody s_memory_of) (defScope s_memory_of) [] ([] : List (Str × V)) a_memory_of d_memory_of
  m_memory_of : mg "memory_of" = some (.ref a_memory_of)
  b_memory_of : BindsD K d_memory_of ["runs"] []
  a_law_pot : Addr
  d_law_pot : FuncData
  F_law_pot : FunD K "_law_pot" "_law_pot" (defArgs s_law_pot) (defBody s_law_pot) (defScope s_law_pot) [] ([] : List (Str × V)) a_law_pot d_law_pot
  m_law_pot : mg "_law_pot" = some (.ref a_law_pot)
  b_law_pot : BindsD K d_law_pot ["_law_script", "_law_k"] []
  a_law_take : Addr
  d_law_take : FuncData
  F_law_take : FunD K "_law_take" "_law_take" (defArgs s_law_take) (defBody s_law_take) (defScope s_law_take) [] ([] : List (Str × V)) a_law_take d_law_take
  m_law_take : mg "_law_take" = some (.ref a_law_take)
  b_law_take : BindsD K d_law_take ["_law_pot_here", "_law_many"] []
  a_law_among : Addr
  d_law_among : FuncData
  F_law_among : FunD K "_law_among" "_law_among" (defArgs s_law_among) (defBody s_law_among) (defScope s_law_among) [] ([] : List (Str × V)) a_law_among d_law_among
  m_law_among : mg "_law_among" = some (.ref a_law_among)
  b_law_among : BindsD K d_law_among ["_law_pot_here", "_law_some"] []
  a_law_wide : Addr
  d_law_wide : FuncData
  F_law_wide : FunD K "_law_wide" "_law_wide" (defArgs s_law_wide) (defBody s_law_wide) (defScope s_law_wide) [] ([] : List (Str × V)) a_law_wide d_law_wide
  m_law_wide : mg "_law_wide" = some (.ref a_law_wide)
  b_law_wide : BindsD K d_law_wide ["_law_pot_here"] []
  a_law_number : Addr
  d_law_number : FuncData
  F_law_number : FunD K "_law_number" "_law_number" (defArgs s_law_number) (defBody s_law_number) (defScope s_law_number) [] ([] : List (Str × V)) a_law_number d_law_number
  m_law_number : mg "_law_number" = some (.ref a_law_number)
  b_law_number : BindsD K d_law_number ["_law_pot_here"] []
  a_law_part : Addr
  d_law_part : FuncData
  F_law_part : FunD K "_law_part" "_law_part" (defArgs s_law_part) (defBody s_law_part) (defScope s_law_part) [] ([] : List (Str × V)) a_law_part d_law_part
  m_law_part : mg "_law_part" = some (.ref a_law_part)
  b_law_part : BindsD K d_law_part ["_law_row_here", "_law_begin", "_law_stop"] []
  a_law_joined : Addr
  d_law_joined : FuncData
  F_law_joined : FunD K "_law_joined" "_law_joined" (defArgs s_law_joined) (defBody s_law_joined) (defScope s_law_joined) [] ([] : List (Str × V)) a_law_joined d_law_joined
  m_law_joined : mg "_law_joined" = some (.ref a_law_joined)
  b_law_joined : BindsD K d_law_joined ["_law_row_here"] []
  a_law_row : Addr
  d_law_row : FuncData
  F_law_row : FunD K "_law_row" "_law_row" (defArgs s_law_row) (defBody s_law_row) (defScope s_law_row) [] ([] : List (Str × V)) a_law_row d_law_row
  m_law_row : mg "_law_row" = some (.ref a_law_row)
  b_law_row : BindsD K d_law_row ["_law_pot_here", "_law_wide_here", "_law_spots"] []
  a_law_columns : Addr
  d_law_columns : FuncData
  F_law_columns : FunD K "_law_columns" "_law_columns" (defArgs s_law_columns) (defBody s_law_columns) (defScope s_law_columns) [] ([] : List (Str × V)) a_law_columns d_law_columns
  m_law_columns : mg "_law_columns" = some (.ref a_law_columns)
  b_law_columns : BindsD K d_law_columns ["_law_model"] []
  a_law_shown : Addr
  d_law_shown : FuncData
  F_law_shown : FunD K "_law_shown" "_law_shown" (defArgs s_law_shown) (defBody s_law_shown) (defScope s_law_shown) [] ([] : List (Str × V)) a_law_shown d_law_shown
  m_law_shown : mg "_law_shown" = some (.ref a_law_shown)
  b_law_shown : BindsD K d_law_shown ["_law_some"] []
  a_law_worlds : Addr
  d_law_worlds : FuncData
  F_law_worlds : FunD K "_law_worlds" "_law_worlds" (defArgs s_law_worlds) (defBody s_law_worlds) (defScope s_law_worlds) [] ([] : List (Str × V)) a_law_worlds d_law_worlds
  m_law_worlds : mg "_law_worlds" = some (.ref a_law_worlds)
  b_law_worlds : BindsD K d_law_worlds ["_law_pot_here"] []
  a_law_right : Addr
  d_law_right : FuncData
  F_law_right : FunD K "_law_right" "_law_right" (defArgs s_law_right) (defBody s_law_right) (defScope s_law_right) [] ([] : List (Str × V)) a_law_right d_law_right
  m_law_right : mg "_law_right" = some (.ref a_law_right)
  b_law_right : BindsD K d_law_right ["_law_pot_here"] []
  a_law : Addr
  d_law : FuncData
  F_law : FunD K "law" "law" (defArgs s_law) (defBody s_law) (defScope s_law) [] ([] : List (Str × V)) a_law d_law
  m_law : mg "law" = some (.ref a_law)
  b_law : BindsD K d_law ["_law_script"] []
  kb_columns_0_memories : KBnD K d_columns ["memories"] 0 ["memories"] (fun vs zs => gp [0] vs [] zs)
  t_LARGEST : Tok
  g_LARGEST : mg "LARGEST" = some (.int 1000000000000000000 t_LARGEST)
  n_ValueError : mg "ValueError" = none
  n_abs : mg "abs" = none
  n_all : mg "all" = none
  n_any : mg "any" = none
  n_bool : mg "bool" = none
  n_dict : mg "dict" = none
  n_divmod : mg "divmod" = none
  n_enumerate : mg "enumerate" = none
  n_int : mg "int" = none
  n_isinstance : mg "isinstance" = none
  n_len : mg "len" = none
  n_list : mg "list" = none
  n_max : mg "max" = none
  n_min : mg "min" = none
  n_range : mg "range" = none
  n_repr : mg "repr" = none
  n_set : mg "set" = none
  n_sorted : mg "sorted" = none
  n_sum : mg "sum" = none
  n_tuple : mg "tuple" = none
  n_zip : mg "zip" = none
/-! ### trees by their distances -/
section
variable {D : Int → Int → Int} {U : Int → Prop} {ks : List Int} {nb : Int → List Int}
def Btw (D : Int → Int → Int) (u x v : Int) : Prop := D u x + D x v = D u v
structure TreeU (D : Int → Int → Int) (U : Int → Prop) : Prop where
  nn : ∀ u v, U u → U v → 0 ≤ D u v
  self : ∀ u, U u → D u u = 0
  eq : ∀ u v, U u → U v → D u v = 0 → u = v
  sym : ∀ u v, U u → U v → D u v = D v u
  four : ∀ a b c d, U a → U b → U c → U d → D a b + D c d ≤ D a c + D b d ∨ D a b + D c d ≤ D a d + D b c
theorem TreeU.tri (t : TreeU D U) {a b c : Int} (ha : U a) (hb : U b) (hc : U c) : D a b ≤ D a c + D c b := by
  have := t.four a b c c ha hb hc hc
  have := t.self c hc
  have := t.sym b c hb hc
  omega
theorem TreeU.pos (t : TreeU D U) {a b : Int} (ha : U a) (hb : U b) (n : a ≠ b) : 0 < D a b := by
  have := t.nn a b ha hb
  rcases Int.lt_or_eq_of_le this with h | h
  · exact h
  · exact absurd (t.eq a b ha hb h.symm) n
theorem Btw.sym (t : TreeU D U) {a b c : Int} (ha : U a) (hb : U b) (hc : U c) (h : Btw D a b c) : Btw D c b a := by
  unfold Btw at h ⊢
  have := t.sym a b ha hb
  have := t.sym b c hb hc
  have := t.sym a c ha hc
  omega
/-- the three sums of four points -/
theorem TreeU.sums (t : TreeU D U) {a b c d : Int} (ha : U a) (hb : U b) (hc : U c) (hd : U d) :
    (D a b + D c d ≤ D a c + D b d ∨ D a b + D c d ≤ D a d + D b c) ∧ (D a c + D b d ≤ D a b + D c d ∨ D a c + D b d ≤ D a d + D b c) ∧ (D a d + D b c ≤ D a b + D c d ∨ D a d + D b c ≤ D a c + D b d) := by
  have h1 := t.four a b c d ha hb hc hd
  have h2 := t.four a c b d ha hc hb hd
  have h3 := t.four a d b c ha hd hb hc
  rw [t.sym c b hc hb] at h2
  rw [t.sym d c hd hc, t.sym d b hd hb] at h3
  exact ⟨h1, h2, h3⟩
/-- on one way, x and z: z is on one side of x -/
theorem TreeU.line (t : TreeU D U) {a x b z : Int} (ha : U a) (hx : U x) (hb : U b) (hz : U z) (h1 : Btw D a x b) (h2 : Btw D a z b) : Btw D a z x ∨ Btw D x z b := by
  obtain ⟨q1, q2, q3⟩ := t.sums ha hb hx hz
  have := t.sym b x hb hx
  have := t.sym b z hb hz
  have := t.sym x z hx hz
  have := t.nn x z hx hz
  unfold Btw at *
  omega
theorem TreeU.med1 (t : TreeU D U) {a b c x y : Int} (ha : U a) (hb : U b) (hc : U c) (hx : U x) (hy : U y)
    (h1 : Btw D a x b) (h2 : Btw D a x c) (h3 : Btw D b x c) (k1 : Btw D a y b) (k2 : Btw D a y c) (k3 : Btw D b y c) : x = y := by
  refine t.eq x y hx hy ?_
  obtain ⟨q1, q2, q3⟩ := t.sums ha hb hx hy
  have := t.sym b x hb hx
  have := t.sym b y hb hy
  have := t.sym c x hc hx
  have := t.sym c y hc hy
  have := t.nn x y hx hy
  unfold Btw at *
  omega
theorem TreeU.mid_l (t : TreeU D U) {u x v z : Int} (hu : U u) (hx : U x) (hv : U v) (hz : U z) (h : Btw D u x v) (k : Btw D u z x) : Btw D u z v ∧ Btw D z x v := by
  have := t.tri hu hv hz
  have := t.tri hz hv hx
  unfold Btw at *
  omega
theorem TreeU.mid_ne (t : TreeU D U) {u x v z : Int} (hu : U u) (hx : U x) (hv : U v) (h : Btw D u x v) (n : x ≠ v) (k : Btw D u z x) : z ≠ v := fun e => by
  subst e
  have := t.pos hx hv n
  have := t.sym x z hx hv
  unfold Btw at *
  omega
structure Rp (D : Int → Int → Int) (ks : List Int) (nb : Int → List Int) : Prop where
  nd : ∀ u ∈ ks, (nb u).Nodup
  adj : ∀ u ∈ ks, ∀ v, v ∈ nb u ↔ v ∈ ks ∧ v ≠ u ∧ ∀ x ∈ ks, x ≠ u → x ≠ v → ¬ Btw D u x v
  med : ∀ u ∈ ks, ∀ v ∈ ks, ∀ w ∈ ks, ∃ m ∈ ks, Btw D u m v ∧ Btw D u m w ∧ Btw D v m w
theorem Rp.sym (r : Rp D ks nb) (t : TreeU D U) (hU : ∀ u ∈ ks, U u) {u v : Int} (hu : u ∈ ks) (h : v ∈ nb u) : u ∈ nb v := by
  obtain ⟨a, b, c⟩ := (r.adj u hu v).mp h
  refine (r.adj v a u).mpr ⟨hu, Ne.symm b, fun x hx n1 n2 k => c x hx n2 n1 (k.sym t (hU v a) (hU x hx) (hU u hu))⟩
/-- x lies between two of its neighbours -/
theorem Rp.through (r : Rp D ks nb) (t : TreeU D U) (hU : ∀ u ∈ ks, U u) {x p q : Int} (hx : x ∈ ks) (hp : p ∈ nb x) (hq : q ∈ nb x) (n : p ≠ q) : Btw D p x q := by
  obtain ⟨p1, p2, p3⟩ := (r.adj x hx p).mp hp
  obtain ⟨q1, q2, q3⟩ := (r.adj x hx q).mp hq
  obtain ⟨m, hm, m1, m2, m3⟩ := r.med x hx p p1 q q1
  by_cases c1 : m = x
  · rw [← c1]
    exact m3
  · by_cases c2 : m = p
    · subst c2
      exact absurd m2 (q3 m hm c1 n)
    · exact absurd m1 (p3 m hm c1 c2)
theorem min_of {p : Int → Prop} (f : Int → Int) : ∀ l : List Int, (∃ z ∈ l, p z) → ∃ y ∈ l, p y ∧ ∀ z ∈ l, p z → f y ≤ f z
  | [], h => by
    obtain ⟨z, hz, _⟩ := h
    cases hz
  | a :: l, h => by
    by_cases c : ∃ z ∈ l, p z
    · obtain ⟨y, y1, y2, y3⟩ := min_of f l c
      by_cases d : p a ∧ f a < f y
      · refine ⟨a, List.mem_cons_self, d.1, fun z hz pz => ?_⟩
        rcases List.mem_cons.mp hz with rfl | hz
        · exact Int.le_refl _
        · have := y3 z hz pz
          omega
      · refine ⟨y, List.mem_cons_of_mem _ y1, y2, fun z hz pz => ?_⟩
        rcases List.mem_cons.mp hz with rfl | hz
        · by_cases e : f z < f y
          · exact absurd ⟨pz, e⟩ d
          · omega
        · exact y3 z hz pz
    · obtain ⟨z, hz, pz⟩ := h
      refine ⟨z, hz, pz, fun w hw pw => ?_⟩
      rcases List.mem_cons.mp hw with e | hw
      · rcases List.mem_cons.mp hz with e2 | hz
        · rw [e, e2]
          exact Int.le_refl _
        · exact absurd ⟨z, hz, pz⟩ c
      · exact absurd ⟨w, hw, pw⟩ c
/-- the neighbour on the way from x to u -/
theorem Rp.toward (r : Rp D ks nb) (t : TreeU D U) (hU : ∀ u ∈ ks, U u) {x u : Int} (hx : x ∈ ks) (hu : u ∈ ks) (n : x ≠ u) : ∃ y ∈ nb x, Btw D x y u := by
  have s : Btw D x u u := by
    have := t.self u (hU u hu)
    unfold Btw
    omega
  obtain ⟨y, hy, ⟨y1, y2⟩, y3⟩ := min_of (p := fun y => y ≠ x ∧ Btw D x y u) (fun y => D x y) ks ⟨u, hu, Ne.symm n, s⟩
  refine ⟨y, (r.adj x hx y).mpr ⟨hy, y1, fun z hz n1 n2 k => ?_⟩, y2⟩
  have hzy := t.pos (hU z hz) (hU y hy) n2
  have m := (t.mid_l (hU x hx) (hU y hy) (hU u hu) (hU z hz) y2 k).1
  have := y3 z hz ⟨n1, m⟩
  unfold Btw at k
  omega
theorem two_lists {l : List Int} (h : l.length ≤ 2) {a b : Int} (ha : a ∈ l) (hb : b ∈ l) (n : a ≠ b) : l = [a, b] ∨ l = [b, a] := by
  match l, h with
  | [], _ => cases ha
  | [c], _ =>
    rw [List.mem_singleton] at ha hb
    exact absurd (ha.trans hb.symm) n
  | [c, d], _ =>
    simp only [List.mem_cons, List.not_mem_nil, or_false] at ha hb
    rcases ha with rfl | rfl <;> rcases hb with rfl | rfl
    · exact absurd rfl n
    · exact .inl rfl
    · exact .inr rfl
    · exact absurd rfl n
/-- what is left at u when x goes -/
def cutN (nb : Int → List Int) (x : Int) : Int → List Int := fun u =>
  match nb x with
  | [a, b] => if u = a then (nb u).erase x ++ [b] else if u = b then (nb u).erase x ++ [a] else (nb u).erase x
  | _ => (nb u).erase x
theorem mem_cutN {nb : Int → List Int} {x u v : Int} (nd : (nb u).Nodup) (nx : (nb x).Nodup) : v ∈ cutN nb x u ↔ (v ∈ nb u ∧ v ≠ x) ∨ ((nb x = [u, v] ∨ nb x = [v, u]) ∧ u ≠ v) := by
  have e : v ∈ (nb u).erase x ↔ v ∈ nb u ∧ v ≠ x := by
    rw [nd.mem_erase_iff]
    exact ⟨fun h => ⟨h.2, h.1⟩, fun h => ⟨h.2, h.1⟩⟩
  unfold cutN
  split
  · rename_i a b h
    rw [h] at nx
    have nab : a ≠ b := by
      simp only [List.nodup_cons, List.mem_singleton] at nx
      exact nx.1
    by_cases c1 : u = a
    · rw [if_pos c1, List.mem_append, e, List.mem_singleton]
      subst c1
      constructor
      · rintro (z | rfl)
        · exact .inl z
        · exact .inr ⟨.inl h, nab⟩
      · rintro (z | ⟨z | z, n⟩)
        · exact .inl z
        · rw [h] at z
          injection z with _ z
          injection z with z
          exact .inr z.symm
        · rw [h] at z
          injection z with z1 z
          exact absurd z1 n
    · rw [if_neg c1]
      by_cases c2 : u = b
      · rw [if_pos c2, List.mem_append, e, List.mem_singleton]
        subst c2
        constructor
        · rintro (z | rfl)
          · exact .inl z
          · exact .inr ⟨.inr h, Ne.symm nab⟩
        · rintro (z | ⟨z | z, n⟩)
          · exact .inl z
          · rw [h] at z
            injection z with z1 z
            exact absurd z1.symm c1
          · rw [h] at z
            injection z with z1 z
            exact .inr z1.symm
      · rw [if_neg c2, e]
        constructor
        · exact .inl
        · rintro (z | ⟨z | z, n⟩)
          · exact z
          · rw [h] at z
            injection z with z1 z
            exact absurd z1.symm c1
          · rw [h] at z
            injection z with z1 z
            injection z with z2 z
            exact absurd z2.symm c2
  · rename_i h
    rw [e]
    constructor
    · exact .inl
    · rintro (z | ⟨z | z, n⟩)
      · exact z
      · exact absurd z (h _ _)
      · exact absurd z (h _ _)
/-- a node with less than three ties goes -/
theorem Rp.cut (r : Rp D ks nb) (t : TreeU D U) (hU : ∀ u ∈ ks, U u) (nk : ks.Nodup) {x : Int} (hx : x ∈ ks) (few : (nb x).length < 3) : Rp D (ks.erase x) (cutN nb x) := by
  have me : ∀ {u}, u ∈ ks.erase x ↔ u ≠ x ∧ u ∈ ks := fun {u} => nk.mem_erase_iff
  have nxx : x ∉ nb x := fun z => ((r.adj x hx x).mp z).2.1 rfl
  have key : ∀ a b, a ∈ nb x → b ∈ nb x → a ≠ b → b ∉ nb a := fun a b ha hb n z => by
    obtain ⟨a1, a2, _⟩ := (r.adj x hx a).mp ha
    obtain ⟨b1, b2, _⟩ := (r.adj x hx b).mp hb
    exact ((r.adj a a1 b).mp z).2.2 x hx (Ne.symm a2) (Ne.symm b2) (r.through t hU hx ha hb n)
  refine ⟨fun u hu => ?_, fun u hu v => ?_, fun u hu v hv w hw => ?_⟩
  · obtain ⟨u1, u2⟩ := me.mp hu
    have e1 := (r.nd u u2).erase x
    unfold cutN
    split
    · rename_i a b h
      have nx := r.nd x hx
      rw [h] at nx
      have nab : a ≠ b := by
        simp only [List.nodup_cons, List.mem_singleton] at nx
        exact nx.1
      have ha : a ∈ nb x := by rw [h]; exact List.mem_cons_self
      have hb : b ∈ nb x := by rw [h]; exact List.mem_cons_of_mem _ List.mem_cons_self
      split
      · rename_i c
        subst c
        refine List.nodup_append.mpr ⟨e1, by simp, fun y hy z hz e => ?_⟩
        rw [List.mem_singleton.mp hz] at e
        rw [e] at hy
        exact key u b ha hb nab (List.mem_of_mem_erase hy)
      · split
        · rename_i c
          subst c
          refine List.nodup_append.mpr ⟨e1, by simp, fun y hy z hz e => ?_⟩
          rw [List.mem_singleton.mp hz] at e
          rw [e] at hy
          exact key u a hb ha (Ne.symm nab) (List.mem_of_mem_erase hy)
        · exact e1
    · exact e1
  · obtain ⟨u1, u2⟩ := me.mp hu
    rw [mem_cutN (r.nd u u2) (r.nd x hx)]
    constructor
    · rintro (⟨h, n⟩ | ⟨h, n⟩)
      · obtain ⟨v1, v2, v3⟩ := (r.adj u u2 v).mp h
        exact ⟨me.mpr ⟨n, v1⟩, v2, fun z hz => v3 z (me.mp hz).2⟩
      · have hu3 : u ∈ nb x := by rcases h with h | h <;> rw [h] <;> simp
        have hv3 : v ∈ nb x := by rcases h with h | h <;> rw [h] <;> simp
        obtain ⟨v1, v2, v3⟩ := (r.adj x hx v).mp hv3
        obtain ⟨w1, w2, w3⟩ := (r.adj x hx u).mp hu3
        refine ⟨me.mpr ⟨v2, v1⟩, Ne.symm n, fun z hz n1 n2 k => ?_⟩
        obtain ⟨z1, z2⟩ := me.mp hz
        have th := r.through t hU hx hu3 hv3 n
        rcases t.line (hU u u2) (hU x hx) (hU v v1) (hU z z2) th k with l | l
        · exact w3 z z2 z1 n1 (l.sym t (hU u u2) (hU z z2) (hU x hx))
        · exact v3 z z2 z1 n2 l
    · rintro ⟨hv, n, h⟩
      obtain ⟨v1, v2⟩ := me.mp hv
      by_cases c : Btw D u x v
      · have a1 : u ∈ nb x := r.sym t hU u2 ((r.adj u u2 x).mpr ⟨hx, Ne.symm u1, fun z hz n1 n2 k => h z (me.mpr ⟨n2, hz⟩) n1 (t.mid_ne (hU u u2) (hU x hx) (hU v v2) c (Ne.symm v1) k) (t.mid_l (hU u u2) (hU x hx) (hU v v2) (hU z hz) c k).1⟩)
        have c' := c.sym t (hU u u2) (hU x hx) (hU v v2)
        have a2 : v ∈ nb x := r.sym t hU v2 ((r.adj v v2 x).mpr ⟨hx, Ne.symm v1, fun z hz n1 n2 k => h z (me.mpr ⟨n2, hz⟩) (t.mid_ne (hU v v2) (hU x hx) (hU u u2) c' (Ne.symm u1) k) n1 ((t.mid_l (hU v v2) (hU x hx) (hU u u2) (hU z hz) c' k).1.sym t (hU v v2) (hU z hz) (hU u u2))⟩)
        exact .inr ⟨two_lists (by omega) a1 a2 (Ne.symm n), Ne.symm n⟩
      · refine .inl ⟨(r.adj u u2 v).mpr ⟨v2, n, fun z hz n1 n2 k => ?_⟩, v1⟩
        by_cases cz : z = x
        · subst cz
          exact c k
        · exact h z (me.mpr ⟨cz, hz⟩) n1 n2 k
  · obtain ⟨u1, u2⟩ := me.mp hu
    obtain ⟨v1, v2⟩ := me.mp hv
    obtain ⟨w1, w2⟩ := me.mp hw
    obtain ⟨m, hm, m1, m2, m3⟩ := r.med u u2 v v2 w w2
    by_cases c : m = x
    · exfalso
      subst c
      obtain ⟨a, ha, a1⟩ := r.toward t hU hm u2 (Ne.symm u1)
      obtain ⟨b, hb, b1⟩ := r.toward t hU hm v2 (Ne.symm v1)
      obtain ⟨c, hc, c1⟩ := r.toward t hU hm w2 (Ne.symm w1)
      have ne : ∀ {u v a : Int}, u ∈ ks → v ∈ ks → a ∈ nb m → Btw D m a u → Btw D m a v → Btw D u m v → False := fun {u v a} hu hv ha a1 a2 k => by
        obtain ⟨x1, x2, _⟩ := (r.adj m hm a).mp ha
        have := t.tri (hU u hu) (hU v hv) (hU a x1)
        have := t.pos (hU m hm) (hU a x1) (Ne.symm x2)
        have := t.sym a u (hU a x1) (hU u hu)
        have := t.sym m u (hU m hm) (hU u hu)
        unfold Btw at *
        omega
      have nab : a ≠ b := fun e => by subst e; exact ne u2 v2 ha a1 b1 m1
      have nac : a ≠ c := fun e => by subst e; exact ne u2 w2 ha a1 c1 m2
      have nbc : b ≠ c := fun e => by subst e; exact ne v2 w2 hb b1 c1 m3
      rcases two_lists (by omega) ha hb nab with e | e
      all_goals
        rw [e] at hc
        simp only [List.mem_cons, List.not_mem_nil, or_false] at hc
        rcases hc with rfl | rfl
        · first | exact nac rfl | exact nbc rfl
        · first | exact nbc rfl | exact nac rfl
    · exact ⟨m, me.mpr ⟨c, hm⟩, m1, m2, m3⟩
end

/-! ### what ties are, as a tree of worlds -/
section
variable {D : Int → Int → Int} {ever w : Int} {liv liv' ks ks' : List Int} {nb nb' : Int → List Int}
def Un (ever : Int) (x : Int) : Prop := 0 ≤ x ∧ x < ever
structure Tr3 (D : Int → Int → Int) (ever : Int) (liv ks : List Int) (nb : Int → List Int) : Prop where
  t : TreeU D (Un ever)
  hU : ∀ u ∈ ks, Un ever u
  rp : Rp D ks nb
  nk : ks.Nodup
  nl : liv.Nodup
  sub : ∀ x ∈ liv, x ∈ ks
  red : ∀ x ∈ ks, x ∉ liv → 3 ≤ (nb x).length
  e0 : 0 < ever
theorem sub_len : ∀ {l m : List Int}, l.Nodup → (∀ x ∈ l, x ∈ m) → l.length ≤ m.length
  | [], _, _, _ => Nat.zero_le _
  | a :: l, m, n, h => by
    rw [List.nodup_cons] at n
    have ha := h a List.mem_cons_self
    have e := List.length_erase_of_mem ha
    have ih := sub_len (m := m.erase a) n.2 fun x hx => (List.mem_erase_of_ne (fun z => n.1 (by rw [← z]; exact hx))).mpr (h x (List.mem_cons_of_mem _ hx))
    have := List.length_pos_of_mem ha
    rw [List.length_cons]
    omega
theorem un_len {l : List Int} (n : l.Nodup) (h : ∀ x ∈ l, Un ever x) : l.length ≤ ever.toNat := by
  have := sub_len (m := (List.range ever.toNat).map Int.ofNat) n fun x hx => by
    obtain ⟨a, b⟩ := h x hx
    refine List.mem_map.mpr ⟨x.toNat, List.mem_range.mpr (by omega), ?_⟩
    show (x.toNat : Int) = x
    omega
  rw [List.length_map, List.length_range] at this
  exact this
theorem Tr3.klen (z : Tr3 D ever liv ks nb) : ks.length ≤ ever.toNat := un_len z.nk z.hU
theorem Tr3.nlen (z : Tr3 D ever liv ks nb) {u : Int} (hu : u ∈ ks) : (nb u).length ≤ ever.toNat := un_len (z.rp.nd u hu) fun x hx => z.hU x ((z.rp.adj u hu x).mp hx).1
theorem Tr3.llen (z : Tr3 D ever liv ks nb) : liv.length ≤ ever.toNat := un_len z.nl fun x hx => z.hU x (z.sub x hx)
/-- the same ties, told in another order -/
theorem Rp.alike (r : Rp D ks nb) (m : ∀ x, x ∈ ks' ↔ x ∈ ks) (nd : ∀ u ∈ ks, (nb' u).Nodup) (h : ∀ u ∈ ks, ∀ v, v ∈ nb' u ↔ v ∈ nb u) : Rp D ks' nb' :=
  ⟨fun u hu => nd u ((m u).mp hu), fun u hu v => by
    rw [h u ((m u).mp hu), r.adj u ((m u).mp hu), m]
    exact ⟨fun ⟨a, b, c⟩ => ⟨a, b, fun x hx => c x ((m x).mp hx)⟩, fun ⟨a, b, c⟩ => ⟨a, b, fun x hx => c x ((m x).mpr hx)⟩⟩, fun u hu v hv w hw => by
    obtain ⟨x, x1, x2⟩ := r.med u ((m u).mp hu) v ((m v).mp hv) w ((m w).mp hw)
    exact ⟨x, (m x).mpr x1, x2⟩⟩
theorem nd_perm {l m : List Int} (h1 : l.Nodup) (h2 : m.Nodup) (h : ∀ x, x ∈ l ↔ x ∈ m) : l.Perm m := (List.perm_ext_iff_of_nodup h1 h2).mpr fun a => h a
theorem Tr3.alike (z : Tr3 D ever liv ks nb) (nk : ks'.Nodup) (m : ∀ x, x ∈ ks' ↔ x ∈ ks) (nl : liv'.Nodup) (ml : ∀ x, x ∈ liv' ↔ x ∈ liv) (nd : ∀ u ∈ ks, (nb' u).Nodup) (h : ∀ u ∈ ks, ∀ v, v ∈ nb' u ↔ v ∈ nb u) : Tr3 D ever liv' ks' nb' :=
  ⟨z.t, fun u hu => z.hU u ((m u).mp hu), z.rp.alike m nd h, nk, nl, fun x hx => (m x).mpr (z.sub x ((ml x).mp hx)), fun x hx n => by
    have hx' := (m x).mp hx
    rw [(nd_perm (nd x hx') (z.rp.nd x hx') (h x hx')).length_eq]
    exact z.red x hx' fun q => n ((ml x).mpr q), z.e0⟩
def D0 : Int → Int → Int := fun _ _ => 0
theorem tr3_init : Tr3 D0 1 [0] [0] (fun _ => []) := by
  have e : ∀ u, Un 1 u → u = 0 := fun u h => by
    obtain ⟨a, b⟩ := h
    omega
  refine ⟨⟨fun _ _ _ _ => Int.le_refl _, fun _ _ => rfl, fun u v hu hv _ => by rw [e u hu, e v hv], fun _ _ _ _ => rfl, fun _ _ _ _ _ _ _ _ => .inl (Int.le_refl _)⟩, fun u hu => ?_, ⟨fun _ _ => List.nodup_nil, fun u hu v => ?_, fun u _ _ _ _ _ => ⟨0, List.mem_singleton.mpr rfl, rfl, rfl, rfl⟩⟩, by simp, by simp, fun _ h => h, fun x hx n => absurd hx n, by decide⟩
  · rw [List.mem_singleton.mp hu]
    exact ⟨Int.le_refl _, by decide⟩
  · constructor
    · intro h
      cases h
    · rintro ⟨a, b, _⟩
      rw [List.mem_singleton.mp hu, List.mem_singleton.mp a] at b
      exact absurd rfl b
/-- a fork: n hangs at w -/
def Dk (D : Int → Int → Int) (n w : Int) : Int → Int → Int := fun u v => if u = n then (if v = n then 0 else D w v + 1) else if v = n then D u w + 1 else D u v
theorem dk_old {n u v : Int} (hu : u ≠ n) (hv : v ≠ n) : Dk D n w u v = D u v := by
  unfold Dk
  rw [if_neg hu, if_neg hv]
theorem dk_nl {n v : Int} (hv : v ≠ n) : Dk D n w n v = D w v + 1 := by
  unfold Dk
  rw [if_pos rfl, if_neg hv]
theorem dk_nr {n u : Int} (hu : u ≠ n) : Dk D n w u n = D u w + 1 := by
  unfold Dk
  rw [if_neg hu, if_pos rfl]
theorem dk_nn {n : Int} : Dk D n w n n = 0 := by
  unfold Dk
  rw [if_pos rfl, if_pos rfl]
theorem TreeU.fork (t : TreeU D (Un ever)) (hw : Un ever w) : TreeU (Dk D ever w) (Un (ever + 1)) := by
  have old : ∀ {u}, Un (ever + 1) u → u = ever ∨ (u ≠ ever ∧ Un ever u) := fun {u} h => by
    obtain ⟨a, b⟩ := h
    by_cases c : u = ever
    · exact .inl c
    · exact .inr ⟨c, a, by omega⟩
  have sw := t.self w hw
  refine ⟨fun u v hu hv => ?_, fun u hu => ?_, fun u v hu hv h => ?_, fun u v hu hv => ?_, fun a b c d ha hb hc hd => ?_⟩
  · rcases old hu with rfl | ⟨u1, u2⟩ <;> rcases old hv with rfl | ⟨v1, v2⟩
    · rw [dk_nn]; exact Int.le_refl _
    · rw [dk_nl v1]; have := t.nn w v hw v2; omega
    · rw [dk_nr u1]; have := t.nn u w u2 hw; omega
    · rw [dk_old u1 v1]; exact t.nn u v u2 v2
  · rcases old hu with rfl | ⟨u1, u2⟩
    · rw [dk_nn]
    · rw [dk_old u1 u1]; exact t.self u u2
  · rcases old hu with rfl | ⟨u1, u2⟩ <;> rcases old hv with rfl | ⟨v1, v2⟩
    · rfl
    · rw [dk_nl v1] at h; have := t.nn w v hw v2; omega
    · rw [dk_nr u1] at h; have := t.nn u w u2 hw; omega
    · rw [dk_old u1 v1] at h; exact t.eq u v u2 v2 h
  · rcases old hu with rfl | ⟨u1, u2⟩ <;> rcases old hv with rfl | ⟨v1, v2⟩
    · rfl
    · rw [dk_nl v1, dk_nr v1, t.sym w v hw v2]
    · rw [dk_nl u1, dk_nr u1, t.sym w u hw u2]
    · rw [dk_old u1 v1, dk_old v1 u1, t.sym u v u2 v2]
  · rcases old ha with rfl | ⟨a1, a2⟩ <;> rcases old hb with rfl | ⟨b1, b2⟩ <;> rcases old hc with rfl | ⟨c1, c2⟩ <;> rcases old hd with rfl | ⟨d1, d2⟩
    · simp only [dk_nn]; omega
    · simp only [dk_nn, dk_nl d1]; omega
    · simp only [dk_nn, dk_nl c1, dk_nr c1]; have := t.sym w c hw c2; omega
    · simp only [dk_nn, dk_nl d1, dk_nl c1, dk_old c1 d1]
      have := t.tri c2 d2 hw
      have := t.sym w c hw c2
      omega
    · simp only [dk_nn, dk_nl b1, dk_nr b1]; have := t.sym w b hw b2; omega
    · simp only [dk_nn, dk_nl d1, dk_nl b1, dk_nr b1, dk_old b1 d1]
      have := t.tri b2 d2 hw
      have := t.sym w b hw b2
      omega
    · simp only [dk_nn, dk_nl c1, dk_nr c1, dk_nl b1, dk_nr b1, dk_old b1 c1]
      have := t.tri b2 c2 hw
      have := t.sym w b hw b2
      have := t.sym w c hw c2
      omega
    · simp only [dk_nl d1, dk_nl b1, dk_nl c1, dk_old b1 d1, dk_old c1 d1, dk_old b1 c1]
      have := t.four w b c d hw b2 c2 d2
      omega
    · simp only [dk_nn, dk_nr a1]; omega
    · simp only [dk_nn, dk_nl d1, dk_nr a1, dk_old a1 d1]
      have := t.tri a2 d2 hw
      omega
    · simp only [dk_nn, dk_nl c1, dk_nr c1, dk_nr a1, dk_old a1 c1]
      have := t.tri a2 c2 hw
      have := t.sym w c hw c2
      omega
    · simp only [dk_nl d1, dk_nr a1, dk_nl c1, dk_old a1 d1, dk_old c1 d1, dk_old a1 c1]
      have := t.four a w c d a2 hw c2 d2
      omega
    · simp only [dk_nn, dk_nr a1, dk_nr b1, dk_old a1 b1]
      have := t.tri a2 b2 hw
      have := t.sym w b hw b2
      omega
    · simp only [dk_nl d1, dk_nr a1, dk_nr b1, dk_old a1 b1, dk_old b1 d1, dk_old a1 d1]
      have := t.four a b w d a2 b2 hw d2
      omega
    · simp only [dk_nr a1, dk_nr b1, dk_nr c1, dk_old a1 b1, dk_old b1 c1, dk_old a1 c1]
      have := t.four a b c w a2 b2 c2 hw
      omega
    · rw [dk_old a1 b1, dk_old c1 d1, dk_old a1 c1, dk_old b1 d1, dk_old a1 d1, dk_old b1 c1]
      exact t.four a b c d a2 b2 c2 d2
def forkN (nb : Int → List Int) (n w : Int) : Int → List Int := fun u => if u = n then [w] else if u = w then nb u ++ [n] else nb u
theorem Rp.fork (r : Rp D ks nb) (t : TreeU D (Un ever)) (hU : ∀ u ∈ ks, Un ever u) (hw : w ∈ ks) : Rp (Dk D ever w) (ks ++ [ever]) (forkN nb ever w) := by
  have old : ∀ {u}, u ∈ ks → u ≠ ever := fun {u} h e => by
    obtain ⟨a, b⟩ := hU u h
    omega
  have hwU := hU w hw
  have nin : ∀ {u}, u ∈ ks → ever ∉ nb u := fun {u} hu z => old ((r.adj u hu ever).mp z).1 rfl
  have me : ∀ {u}, u ∈ ks ++ [ever] ↔ u ∈ ks ∨ u = ever := fun {u} => by rw [List.mem_append, List.mem_singleton]
  have sw := t.self w hwU
  refine ⟨fun u hu => ?_, fun u hu v => ?_, fun u hu v hv x hx => ?_⟩
  · unfold forkN
    split
    · simp
    · rename_i c
      have hu' := (me.mp hu).resolve_right c
      split
      · exact List.nodup_append.mpr ⟨r.nd u hu', by simp, fun a ha b hb e => nin hu' (by rw [List.mem_singleton.mp hb] at e; rw [← e]; exact ha)⟩
      · exact r.nd u hu'
  · unfold forkN
    by_cases c : u = ever
    · subst c
      rw [if_pos rfl, List.mem_singleton]
      constructor
      · rintro rfl
        refine ⟨me.mpr (.inl hw), old hw, fun x hx n1 n2 k => ?_⟩
        have hx' := (me.mp hx).resolve_right n1
        unfold Btw at k
        rw [dk_nl n1, dk_nl (old hw), dk_old n1 (old hw)] at k
        have := t.pos (hU v hw) (hU x hx') (Ne.symm n2)
        have := t.sym v x hwU (hU x hx')
        omega
      · rintro ⟨a, b, h⟩
        have hv' := (me.mp a).resolve_right b
        refine Classical.byContradiction fun n => h w (me.mpr (.inl hw)) (old hw) (fun z => n z.symm) ?_
        unfold Btw
        rw [dk_nl (old hw), dk_nl b, dk_old (old hw) b]
        omega
    · rw [if_neg c]
      have hu' := (me.mp hu).resolve_right c
      by_cases cv : v = ever
      · subst cv
        by_cases cw : u = w
        · subst cw
          rw [if_pos rfl]
          refine ⟨fun _ => ⟨me.mpr (.inr rfl), Ne.symm c, fun x hx n1 n2 k => ?_⟩, fun _ => List.mem_append.mpr (.inr (List.mem_singleton.mpr rfl))⟩
          have hx' := (me.mp hx).resolve_right n2
          unfold Btw at k
          rw [dk_old c n2, dk_nr n2, dk_nr c] at k
          have := t.pos hwU (hU x hx') (Ne.symm n1)
          have := t.sym u x hwU (hU x hx')
          omega
        · rw [if_neg cw]
          refine ⟨fun z => absurd z (nin hu'), fun ⟨_, _, h⟩ => ?_⟩
          refine absurd ?_ (h w (me.mpr (.inl hw)) (fun z => cw z.symm) (old hw))
          unfold Btw
          rw [dk_old c (old hw), dk_nr (old hw), dk_nr c]
          omega
      · have e : (v ∈ if u = w then nb u ++ [ever] else nb u) ↔ v ∈ nb u := by
          split
          · rw [List.mem_append, List.mem_singleton]
            exact ⟨fun z => z.resolve_right cv, .inl⟩
          · exact Iff.rfl
        rw [e, r.adj u hu' v]
        constructor
        · rintro ⟨a, b, h⟩
          refine ⟨me.mpr (.inl a), b, fun x hx n1 n2 k => ?_⟩
          unfold Btw at k
          rcases me.mp hx with hx' | rfl
          · rw [dk_old c (old hx'), dk_old (old hx') cv, dk_old c cv] at k
            exact h x hx' n1 n2 k
          · rw [dk_nr c, dk_nl cv, dk_old c cv] at k
            have := t.tri (hU u hu') (hU v a) hwU
            omega
        · rintro ⟨a, b, h⟩
          refine ⟨(me.mp a).resolve_right cv, b, fun x hx n1 n2 k => h x (me.mpr (.inl hx)) n1 n2 ?_⟩
          unfold Btw at k ⊢
          rw [dk_old c (old hx), dk_old (old hx) cv, dk_old c cv]
          exact k
  · -- medians
    have self : ∀ {u}, u ∈ ks → D u u = 0 := fun {u} h => t.self u (hU u h)
    have bo : ∀ {a b c}, a ∈ ks → b ∈ ks → c ∈ ks → Btw D a b c → Btw (Dk D ever w) a b c := fun {a b c} ha hb hc h => by
      unfold Btw at h ⊢
      rw [dk_old (old ha) (old hb), dk_old (old hb) (old hc), dk_old (old ha) (old hc)]
      exact h
    have bl : ∀ {b c}, b ∈ ks → c ∈ ks → Btw D w b c → Btw (Dk D ever w) ever b c := fun {b c} hb hc h => by
      unfold Btw at h ⊢
      rw [dk_nl (old hb), dk_old (old hb) (old hc), dk_nl (old hc)]
      omega
    have br : ∀ {a b}, a ∈ ks → b ∈ ks → Btw D a b w → Btw (Dk D ever w) a b ever := fun {a b} ha hb h => by
      unfold Btw at h ⊢
      rw [dk_nr (old hb), dk_old (old ha) (old hb), dk_nr (old ha)]
      omega
    have en : ∀ {a}, a ∈ ks → Btw (Dk D ever w) a ever ever ∧ Btw (Dk D ever w) ever ever a := fun {a} ha => by
      unfold Btw
      rw [dk_nn, dk_nr (old ha), dk_nl (old ha)]
      omega
    have nn : Btw (Dk D ever w) ever ever ever := by
      unfold Btw
      rw [dk_nn]
      omega
    replace hu := me.mp hu
    replace hv := me.mp hv
    replace hx := me.mp hx
    rcases hu with hu | rfl <;> rcases hv with hv | rfl <;> rcases hx with hx | rfl
    · obtain ⟨m, hm, m1, m2, m3⟩ := r.med u hu v hv x hx
      exact ⟨m, me.mpr (.inl hm), bo hu hm hv m1, bo hu hm hx m2, bo hv hm hx m3⟩
    · obtain ⟨m, hm, m1, m2, m3⟩ := r.med u hu v hv w hw
      exact ⟨m, me.mpr (.inl hm), bo hu hm hv m1, br hu hm m2, br hv hm m3⟩
    · obtain ⟨m, hm, m1, m2, m3⟩ := r.med u hu w hw x hx
      exact ⟨m, me.mpr (.inl hm), br hu hm m1, bo hu hm hx m2, bl hm hx m3⟩
    · exact ⟨_, me.mpr (.inr rfl), (en hu).1, (en hu).1, nn⟩
    · obtain ⟨m, hm, m1, m2, m3⟩ := r.med w hw v hv x hx
      exact ⟨m, me.mpr (.inl hm), bl hm hv m1, bl hm hx m2, bo hv hm hx m3⟩
    · exact ⟨_, me.mpr (.inr rfl), (en hv).2, nn, (en hv).1⟩
    · exact ⟨_, me.mpr (.inr rfl), nn, (en hx).2, (en hx).2⟩
    · exact ⟨_, me.mpr (.inr rfl), nn, nn, nn⟩
theorem Tr3.fork (z : Tr3 D ever liv ks nb) (hw : w ∈ ks) : Tr3 (Dk D ever w) (ever + 1) (liv ++ [ever]) (ks ++ [ever]) (forkN nb ever w) := by
  have old : ∀ {u}, u ∈ ks → u ≠ ever := fun {u} h e => by
    obtain ⟨a, b⟩ := z.hU u h
    omega
  refine ⟨z.t.fork (z.hU w hw), fun u hu => ?_, z.rp.fork z.t z.hU hw, ?_, ?_, fun x hx => ?_, fun x hx n => ?_, by have := z.e0; omega⟩
  · rcases List.mem_append.mp hu with h | h
    · obtain ⟨a, b⟩ := z.hU u h
      exact ⟨a, by omega⟩
    · rw [List.mem_singleton.mp h]
      have := z.e0
      exact ⟨by omega, by omega⟩
  · exact List.nodup_append.mpr ⟨z.nk, by simp, fun a ha b hb e => old ha (by rw [e, List.mem_singleton.mp hb])⟩
  · exact List.nodup_append.mpr ⟨z.nl, by simp, fun a ha b hb e => old (z.sub a ha) (by rw [e, List.mem_singleton.mp hb])⟩
  · rcases List.mem_append.mp hx with h | h
    · exact List.mem_append.mpr (.inl (z.sub x h))
    · exact List.mem_append.mpr (.inr h)
  · rw [List.mem_append, not_or] at n
    rcases List.mem_append.mp hx with h | h
    · have := z.red x h n.1
      unfold forkN
      rw [if_neg (old h)]
      split
      · rw [List.length_append]
        omega
      · exact this
    · exact absurd h n.2
/-! ### what stays: the living and the medians of three -/
theorem TreeU.join {U : Int → Prop} (t : TreeU D U) {p x q y z : Int} (hp : U p) (hx : U x) (hq : U q) (hy : U y) (hz : U z) (nxp : x ≠ p) (nxq : x ≠ q) (th : Btw D p x q) (h1 : Btw D x p y) (h2 : Btw D x q z) : Btw D y x z := by
  have a1 := t.pos hx hp nxp
  have a2 := t.pos hx hq nxq
  obtain ⟨q1, q2, q3⟩ := t.sums hx hq hp hy
  obtain ⟨r1, r2, r3⟩ := t.sums hx hy hq hz
  have s1 := t.sym p x hp hx
  have s2 := t.sym p q hp hq
  have s3 := t.sym x q hx hq
  have s4 := t.sym x y hx hy
  have s5 := t.sym q y hq hy
  have s6 := t.sym p y hp hy
  have tr := t.tri hy hz hx
  have tr2 := t.tri hy hq hx
  have tr3 := t.tri hy hq hp
  unfold Btw at *
  omega
theorem max_of {p : Int → Prop} (f : Int → Int) (l : List Int) (h : ∃ z ∈ l, p z) : ∃ y ∈ l, p y ∧ ∀ z ∈ l, p z → f z ≤ f y := by
  obtain ⟨y, y1, y2, y3⟩ := min_of (fun x => - f x) l h
  refine ⟨y, y1, y2, fun z hz pz => ?_⟩
  have := y3 z hz pz
  omega
theorem two_of {l : List Int} (nd : l.Nodup) (h : 3 ≤ l.length) (x : Int) : ∃ a ∈ l, a ≠ x := by
  match l, h with
  | a :: b :: _, _ =>
    by_cases c : a = x
    · refine ⟨b, by simp, fun e => ?_⟩
      rw [List.nodup_cons] at nd
      refine nd.1 ?_
      rw [c, ← e]
      exact List.mem_cons_self
    · exact ⟨a, by simp, c⟩
/-- beyond each neighbour there is one that lives -/
theorem Tr3.leaf (z : Tr3 D ever liv ks nb) {x p : Int} (hx : x ∈ ks) (hp : p ∈ nb x) : ∃ y ∈ liv, Btw D x p y := by
  obtain ⟨p1, p2, p3⟩ := (z.rp.adj x hx p).mp hp
  have s : Btw D x p p := by
    have := z.t.self p (z.hU p p1)
    unfold Btw
    omega
  obtain ⟨y, y1, y2, y3⟩ := max_of (p := fun y => Btw D x p y) (fun y => D x y) ks ⟨p, p1, s⟩
  refine Classical.byContradiction fun n => ?_
  have yl : y ∉ liv := fun h => n ⟨y, h, y2⟩
  have nyx : y ≠ x := fun e => by
    subst e
    have := z.t.pos (z.hU y hx) (z.hU p p1) (Ne.symm p2)
    have := z.t.self y (z.hU y hx)
    have := z.t.sym y p (z.hU y hx) (z.hU p p1)
    unfold Btw at y2
    omega
  have hxU := z.hU x hx
  have hyU := z.hU y y1
  have hpU := z.hU p p1
  obtain ⟨v, hv, v1⟩ := z.rp.toward z.t z.hU y1 hx nyx
  obtain ⟨u, hu, nu⟩ := two_of (z.rp.nd y y1) (z.red y y1 yl) v
  obtain ⟨u1, u2, u3⟩ := (z.rp.adj y y1 u).mp hu
  obtain ⟨w1, w2, w3⟩ := (z.rp.adj y y1 v).mp hv
  have huU := z.hU u u1
  have hvU := z.hU v w1
  have th := z.rp.through z.t z.hU y1 hu hv nu
  have k : Btw D u y x := z.t.join huU hyU hvU huU hxU (Ne.symm u2) (Ne.symm w2) th (by
    have := z.t.self u huU
    unfold Btw
    omega) v1
  have k' := k.sym z.t huU hyU hxU
  have f := z.t.pos hyU huU (Ne.symm u2)
  have m := y3 u u1 (by
    have := z.t.tri hxU huU hpU
    have := z.t.tri hpU huU hyU
    unfold Btw at *
    omega)
  unfold Btw at k'
  omega
def Med (D : Int → Int → Int) (liv : List Int) (x : Int) : Prop := ∃ a ∈ liv, ∃ b ∈ liv, ∃ c ∈ liv, Btw D a x b ∧ Btw D a x c ∧ Btw D b x c
theorem three_of {l : List Int} (nd : l.Nodup) (h : 3 ≤ l.length) : ∃ a ∈ l, ∃ b ∈ l, ∃ c ∈ l, a ≠ b ∧ a ≠ c ∧ b ≠ c := by
  match l, h with
  | a :: b :: c :: _, _ =>
    simp only [List.nodup_cons, List.mem_cons, not_or] at nd
    exact ⟨a, by simp, b, by simp, c, by simp, nd.1.1, nd.1.2.1, nd.2.1.1⟩
theorem Tr3.char (z : Tr3 D ever liv ks nb) (x : Int) : x ∈ ks ↔ Un ever x ∧ (x ∈ liv ∨ Med D liv x) := by
  constructor
  · intro hx
    refine ⟨z.hU x hx, ?_⟩
    by_cases c : x ∈ liv
    · exact .inl c
    refine .inr ?_
    obtain ⟨p, hp, q, hq, r, hr, n1, n2, n3⟩ := three_of (z.rp.nd x hx) (z.red x hx c)
    obtain ⟨a, ha, a1⟩ := z.leaf hx hp
    obtain ⟨b, hb, b1⟩ := z.leaf hx hq
    obtain ⟨d, hd, d1⟩ := z.leaf hx hr
    obtain ⟨p1, p2, _⟩ := (z.rp.adj x hx p).mp hp
    obtain ⟨q1, q2, _⟩ := (z.rp.adj x hx q).mp hq
    obtain ⟨r1, r2, _⟩ := (z.rp.adj x hx r).mp hr
    have U : ∀ {y}, y ∈ liv → Un ever y := fun {y} h => z.hU y (z.sub y h)
    exact ⟨a, ha, b, hb, d, hd, z.t.join (z.hU p p1) (z.hU x hx) (z.hU q q1) (U ha) (U hb) (Ne.symm p2) (Ne.symm q2) (z.rp.through z.t z.hU hx hp hq n1) a1 b1,
      z.t.join (z.hU p p1) (z.hU x hx) (z.hU r r1) (U ha) (U hd) (Ne.symm p2) (Ne.symm r2) (z.rp.through z.t z.hU hx hp hr n2) a1 d1,
      z.t.join (z.hU q q1) (z.hU x hx) (z.hU r r1) (U hb) (U hd) (Ne.symm q2) (Ne.symm r2) (z.rp.through z.t z.hU hx hq hr n3) b1 d1⟩
  · rintro ⟨hU, h | ⟨a, ha, b, hb, c, hc, h1, h2, h3⟩⟩
    · exact z.sub x h
    · obtain ⟨m, hm, m1, m2, m3⟩ := z.rp.med a (z.sub a ha) b (z.sub b hb) c (z.sub c hc)
      rw [z.t.med1 (z.hU a (z.sub a ha)) (z.hU b (z.sub b hb)) (z.hU c (z.sub c hc)) hU (z.hU m hm) h1 h2 h3 m1 m2 m3]
      exact hm
/-- what the living are says which ties there are -/
theorem Tr3.same (z : Tr3 D ever liv ks nb) (y : Tr3 D ever liv' ks' nb') (h : ∀ x, x ∈ liv ↔ x ∈ liv') : (∀ x, x ∈ ks ↔ x ∈ ks') ∧ ∀ u ∈ ks, ∀ v, v ∈ nb u ↔ v ∈ nb' u := by
  have e : ∀ x, x ∈ ks ↔ x ∈ ks' := fun x => by
    rw [z.char x, y.char x, h x]
    unfold Med
    constructor
    · rintro ⟨a, b | ⟨p, hp, q, hq, r, hr, k⟩⟩
      · exact ⟨a, .inl b⟩
      · exact ⟨a, .inr ⟨p, (h p).mp hp, q, (h q).mp hq, r, (h r).mp hr, k⟩⟩
    · rintro ⟨a, b | ⟨p, hp, q, hq, r, hr, k⟩⟩
      · exact ⟨a, .inl b⟩
      · exact ⟨a, .inr ⟨p, (h p).mpr hp, q, (h q).mpr hq, r, (h r).mpr hr, k⟩⟩
  refine ⟨e, fun u hu v => ?_⟩
  rw [z.rp.adj u hu v, y.rp.adj u ((e u).mp hu) v, e v]
  exact ⟨fun ⟨a, b, c⟩ => ⟨a, b, fun x hx => c x ((e x).mpr hx)⟩, fun ⟨a, b, c⟩ => ⟨a, b, fun x hx => c x ((e x).mp hx)⟩⟩
/-! ### the loop of end -/
structure Going (D : Int → Int → Int) (ever : Int) (liv ks0 : List Int) (ks : List Int) (nb : Int → List Int) (went waiting : List Int) : Prop where
  t : TreeU D (Un ever)
  hU : ∀ u ∈ ks, Un ever u
  rp : Rp D ks nb
  nk : ks.Nodup
  nl : liv.Nodup
  sub : ∀ x ∈ liv, x ∈ ks
  red : ∀ x ∈ ks, x ∉ liv → 3 ≤ (nb x).length ∨ x ∈ waiting
  pm : (ks ++ went).Perm ks0
  wl : waiting.length ≤ 1 + 2 * went.length
  e0 : 0 < ever
theorem Tr3.going (z : Tr3 D ever liv ks nb) : Going D ever (liv.erase w) ks ks nb [] [w] :=
  ⟨z.t, z.hU, z.rp, z.nk, z.nl.erase _, fun x hx => z.sub x (List.mem_of_mem_erase hx), fun x hx n => by
    by_cases c : x = w
    · exact .inr (List.mem_singleton.mpr c)
    · exact .inl (z.red x hx fun h => n ((List.mem_erase_of_ne c).mpr h)), by rw [List.append_nil], by simp, z.e0⟩
theorem Going.tr3 {ks0 went : List Int} (z : Going D ever liv ks0 ks nb went []) : Tr3 D ever liv ks nb :=
  ⟨z.t, z.hU, z.rp, z.nk, z.nl, z.sub, fun x hx n => (z.red x hx n).resolve_right (by simp), z.e0⟩
theorem Going.skip {ks0 went wait : List Int} {x : Int} (z : Going D ever liv ks0 ks nb went (wait ++ [x])) (h : ¬ (x ∈ ks ∧ x ∉ liv ∧ (nb x).length < 3)) : Going D ever liv ks0 ks nb went wait :=
  ⟨z.t, z.hU, z.rp, z.nk, z.nl, z.sub, fun y hy n => by
    rcases z.red y hy n with e | e
    · exact .inl e
    · rcases List.mem_append.mp e with e | e
      · exact .inr e
      · rw [List.mem_singleton] at e
        subst e
        refine .inl ?_
        refine Classical.byContradiction fun k => h ⟨hy, n, by omega⟩, z.pm, by
    have := z.wl
    rw [List.length_append, List.length_singleton] at this
    omega, z.e0⟩
theorem Going.go {ks0 went wait : List Int} {x : Int} (z : Going D ever liv ks0 ks nb went (wait ++ [x])) (hx : x ∈ ks) (n : x ∉ liv) (few : (nb x).length < 3) : Going D ever liv ks0 (ks.erase x) (cutN nb x) (went ++ [x]) (wait ++ nb x) := by
  have me : ∀ {u}, u ∈ ks.erase x ↔ u ≠ x ∧ u ∈ ks := fun {u} => z.nk.mem_erase_iff
  refine ⟨z.t, fun u hu => z.hU u (me.mp hu).2, z.rp.cut z.t z.hU z.nk hx few, z.nk.erase _, z.nl, fun y hy => me.mpr ⟨fun e => n (by rw [← e]; exact hy), z.sub y hy⟩, fun y hy ny => ?_, ?_, ?_, z.e0⟩
  · obtain ⟨y1, y2⟩ := me.mp hy
    by_cases c : y ∈ nb x
    · exact .inr (List.mem_append.mpr (.inr c))
    · rcases z.red y y2 ny with e | e
      · refine .inl ?_
        have nx : x ∉ nb y := fun h => c (z.rp.sym z.t z.hU y2 h)
        have e2 : cutN nb x y = nb y := by
          unfold cutN
          rw [List.erase_of_not_mem nx]
          split
          · rename_i a b h
            rw [h] at c
            simp only [List.mem_cons, List.not_mem_nil, or_false, not_or] at c
            rw [if_neg c.1, if_neg c.2]
          · rfl
        rw [e2]
        exact e
      · rcases List.mem_append.mp e with e | e
        · exact .inr (List.mem_append.mpr (.inl e))
        · exact absurd (List.mem_singleton.mp e) y1
  · refine List.Perm.trans ?_ z.pm
    have e := List.perm_cons_erase hx
    refine List.Perm.trans ?_ (e.symm.append_right went)
    rw [← List.append_assoc]
    refine List.Perm.trans (List.perm_append_comm) ?_
    exact List.Perm.refl _
  · have := z.wl
    rw [List.length_append, List.length_singleton] at this
    rw [List.length_append, List.length_append, List.length_singleton]
    omega
end

/-! ### lists of numbers as data -/
theorem dpa_ints {K : PySem.W.Frag} {H : Hp} : ∀ ns : List Int, DpAll K H (ns.map V.int) (ns.map PyData.int)
  | [] => .nil
  | n :: ns => .cons (.int n) (dpa_ints ns)
theorem dp_ints {K : PySem.W.Frag} {H : Hp} {a : Addr} {ns : List Int} (h : SqL K H a (ns.map V.int)) :
    Dp K H (.ref a) (.list (ns.map PyData.int)) := .lst h (dpa_ints ns)
theorem canLay_ints : ∀ ns : List Int, PyData.canLayAll0 (ns.map PyData.int) = true
  | [] => rfl
  | n :: ns => by
    have h := canLay_ints ns
    rw [List.map_cons]
    simp only [PyData.canLayAll0, PyData.canLay0, h, Bool.and_self]
theorem depth_ints : ∀ ns : List Int, PyData.depthAll (ns.map PyData.int) ≤ 0
  | [] => Nat.le_refl _
  | n :: ns => by
    have h := depth_ints ns
    simp only [List.map_cons, PyData.depthAll, PyData.depth]
    omega
theorem shaped_ints (ns : List Int) : SeqAt.shaped (.list (ns.map PyData.int)) = true :=
  shaped_of (by simp only [PyData.canLay0]; exact canLay_ints ns) (by simp only [PyData.depth]; have q := depth_ints ns; omega)
theorem imms_ints : ∀ ns : List Int, imms (ns.map PyData.int) = true
  | [] => rfl
  | n :: ns => by
    rw [List.map_cons]
    simp only [imms, imm, imms_ints ns, Bool.and_self]
theorem ld_ints {K : PySem.W.Frag} {H : Hp} {a : Addr} {ns : List Int} (h : H a = some (.lst (ns.map V.int))) : LD K H a (ns.map PyData.int) := ⟨_, h, dpa_ints ns⟩
theorem eqv_ints : ∀ l r : List Int, PyData.eqvAll (l.map PyData.int) (r.map PyData.int) = decide (l = r)
  | [], [] => rfl
  | [], _ :: _ => by simp [PyData.eqvAll]
  | _ :: _, [] => by simp [PyData.eqvAll]
  | p :: l, q :: r => by
    rw [List.map_cons, List.map_cons]
    simp only [PyData.eqvAll]
    have h := eqv_ints l r
    rw [h, Bool.eq_iff_iff]
    simp [PyData.eqv]
theorem ne_ints {K : PySem.W.Frag} {H : Hp} {Q : VK} {a b : Addr} {l r : List Int} (hx : SqL K H a (l.map V.int)) (hy : SqL K H b (r.map V.int))
    (h : Q (.bl (!decide (l = r))) H) : uNe K (.ref a) (.ref b) H Q := by
  refine i_neD (dp_ints hx) (dp_ints hy) (shaped_ints _) (shaped_ints _) ?_
  simp only [PyData.eqv]
  rw [eqv_ints]
  exact h
theorem ne_ints0 {K : PySem.W.Frag} {H : Hp} {Q : VK} {a b : Addr} {l : List Int} (hx : SqL K H a (l.map V.int)) (hy : H b = some (.lst []))
    (h : Q (.bl (!decide (l = []))) H) : uNe K (.ref a) (.ref b) H Q := ne_ints (r := []) hx (SqL.of hy) h
theorem eq_ints {K : PySem.W.Frag} {H : Hp} {Q : VK} {a b : Addr} {l r : List Int} (hx : SqL K H a (l.map V.int)) (hy : SqL K H b (r.map V.int))
    (h : Q (.bl (decide (l = r))) H) : uEq K (.ref a) (.ref b) H Q := by
  refine i_eqD (dp_ints hx) (dp_ints hy) (shaped_ints _) (shaped_ints _) ?_
  simp only [PyData.eqv]
  rw [eqv_ints]
  exact h
theorem eqv_d2T (p q : Int × Int) : PyData.eqv (d2 p) (d2 q) = decide (p = q) := by
  simp only [PyData.eqv, PyData.eqvAll, Bool.and_true]
  obtain ⟨a, b⟩ := p
  obtain ⟨c, d⟩ := q
  rw [Bool.eq_iff_iff]
  simp
theorem eqv_pairsT : ∀ l r : List (Int × Int), PyData.eqvAll (l.map d2) (r.map d2) = decide (l = r)
  | [], [] => rfl
  | [], _ :: _ => by simp [PyData.eqvAll]
  | _ :: _, [] => by simp [PyData.eqvAll]
  | p :: l, q :: r => by
    rw [List.map_cons, List.map_cons]
    simp only [PyData.eqvAll]
    have h := eqv_pairsT l r
    have h2 := eqv_d2T p q
    rw [h, h2, Bool.eq_iff_iff]
    simp

/-! ### while; three at once -/
theorem i_par3 {i j l : Nat} {tt : TA} {D : Ends} {σ : L2.St} {H : Hp}
    (h : tt σ H fun vs H1 => ∃ u v w, vs = [u, v, w] ∧ D.nx (((σ.set i (some u)).set j (some v)).set l (some w)) H1) : tPar3 i j l tt D σ H := h
theorem i_three {P : V → V → V → Prop} {x y z : V} (h : P x y z) : ∃ u v w, [x, y, z] = [u, v, w] ∧ P u v w := ⟨x, y, z, rfl, h⟩
theorem i_while {c : TT} {tb : TS} {D : Ends} {σ : L2.St} {H : Hp} (W : Nat → L2.St → Hp → Prop) (n : Nat) (h0 : W n σ H)
    (st : ∀ m σ H, W m σ H → c σ H fun b H1 => if b = true then ∃ N : L2.St → Hp → Prop, (∀ σ' H', N σ' H' → ∃ m', m' < m ∧ W m' σ' H') ∧ tb { D with nx := N, ct := N, bk := D.nx } σ H1 else D.nx σ H1) :
    tWhile c tb D σ H := ⟨W, ⟨n, h0⟩, st⟩
theorem i_loop {tb : TS} {D : Ends} {σ : L2.St} {H : Hp} {m : Nat} {W : Nat → L2.St → Hp → Prop}
    (h : tb { D with nx := fun σ' H' => ∃ m', m' < m ∧ W m' σ' H', ct := fun σ' H' => ∃ m', m' < m ∧ W m' σ' H', bk := D.nx } σ H) :
    ∃ N : L2.St → Hp → Prop, (∀ σ' H', N σ' H' → ∃ m', m' < m ∧ W m' σ' H') ∧ tb { D with nx := N, ct := N, bk := D.nx } σ H := ⟨_, fun _ _ h => h, h⟩

/-! ### for over a tuple -/
section
variable {K : PySem.W.Frag} {σ : L2.St} {H : Hp} {D : Ends} {tb : TS} {te : TE} {g : TG} {a : Addr} {xs : List V}
def ForT (K : PySem.W.Frag) (x : V) (g : TG) (tb : TS) (D : Ends) (σ : L2.St) (H : Hp) : Prop :=
  ∃ a, x = .ref a ∧ (∃ ys, SqT K H a ys) ∧ ∃ W : Nat → Nat → L2.St → Hp → Prop,
    (∃ m, W 0 m σ H) ∧ ∀ i m σ H, W i m σ H → ((Itt K a).stop i H ∧ D.nx σ H) ∨
      ((Itt K a).go i H ∧ ∃ Nx : L2.St → Hp → Prop,
        (∀ σ' H', Nx σ' H' → ∃ m', m' < m ∧ W (i + 1) m' σ' H') ∧
        ∀ x H', (Itt K a).yld i H x H' → g x σ H' fun σ2 H2 =>
          tb { D with nx := Nx, ct := Nx, bk := D.nx } σ2 H2)
theorem i_forT (h : te σ H fun x H1 => ForT K x g tb D σ H1) : tFor (iTup K te) g tb D σ H := h
theorem i_eachT (hs : SqT K H a xs) (Pv : Nat → L2.St → Hp → Prop) (h0 : Pv 0 σ H)
    (hl : ∀ i σ H, i ≤ xs.length → Pv i σ H → SqT K H a xs)
    (st : ∀ i x σ H, xs[i]? = some x → Pv i σ H → g x σ H fun σ2 H2 =>
      tb { D with nx := Pv (i + 1), ct := Pv (i + 1), bk := D.nx } σ2 H2)
    (hd : ∀ σ H, Pv xs.length σ H → D.nx σ H) : ForT K (.ref a) g tb D σ H :=
  ⟨a, rfl, ⟨_, hs⟩, for_tup Pv h0 hl st hd⟩
end

/-! ### dicts of numbers, each True; sorted -/
theorem u1 {n : Nat} (h : n + 64 < cLine) : n + 1 < cLine := Nat.lt_of_le_of_lt (Nat.add_le_add_left (by decide) n) h
theorem k_sorted {X : Cx} {K : PySem.W.Frag} (h : X.K = K) : CallR X (.builtin "sorted") (rSortedI K) := h ▸ cr_sortedI
def rListD : List V → Hp → VK → Prop := fun xs H Q => ∃ (a : Addr) (kvs : List (Key × V)), xs = [.ref a] ∧ Rd H a (.dK kvs) ∧
  ∀ p, H p = none → Q (.ref p) (upd H p (.lst (kvs.map fun kv => kV kv.1)))
theorem k_listD {X : Cx} (h : X.calm = true) : CallR X (.type "list") rListD := call_listD h
def kT (n : Int) : Key × V := (.inl n, .bl true)
def addK (ns : List Int) (n : Int) : List Int := if n ∈ ns then ns else ns ++ [n]
theorem put_kT (ns : List Int) (n : Int) : putK (ns.map kT) (.inl n) (.bl true) = (addK ns n).map kT := by
  unfold putK addK
  have e1 : ((ns.map kT).any fun kv => decide (kv.1 = Sum.inl n)) = decide (n ∈ ns) := by
    induction ns with
    | nil => rfl
    | cons m ns ih =>
      rw [List.map_cons, List.any_cons, ih]
      by_cases c : m = n
      · subst c
        simp [kT]
      · have c2 : ¬ n = m := fun z => c z.symm
        simp [kT, c, c2]
  rw [e1]
  by_cases c : n ∈ ns
  · rw [if_pos (decide_eq_true c), if_pos c, List.map_map]
    refine List.map_congr_left fun m _ => ?_
    show (if (kT m).1 = Sum.inl n then ((kT m).1, V.bl true) else kT m) = kT m
    split <;> rfl
  · rw [if_neg (by simp [c]), if_neg c, List.map_append]
    rfl
theorem addK_len (ns : List Int) (n : Int) : (addK ns n).length ≤ ns.length + 1 := by
  unfold addK
  split
  · omega
  · simp
theorem foldK_len : ∀ (ms ns : List Int), (ms.foldl addK ns).length ≤ ns.length + ms.length
  | [], ns => Nat.le_refl _
  | m :: ms, ns => by
    have h := foldK_len ms (addK ns m)
    have h2 := addK_len ns m
    rw [List.foldl_cons, List.length_cons]
    omega
theorem mem_addK {ns : List Int} {n x : Int} : x ∈ addK ns n ↔ x ∈ ns ∨ x = n := by
  unfold addK
  by_cases c : n ∈ ns
  · rw [if_pos c]
    refine ⟨.inl, fun h => h.elim id fun e => by rw [e]; exact c⟩
  · rw [if_neg c, List.mem_append, List.mem_singleton]
theorem mem_foldK {x : Int} : ∀ (ms ns : List Int), x ∈ ms.foldl addK ns ↔ x ∈ ns ∨ x ∈ ms
  | [], ns => by simp
  | m :: ms, ns => by
    rw [List.foldl_cons, mem_foldK ms, mem_addK, List.mem_cons]
    constructor
    · rintro ((h | h) | h)
      · exact .inl h
      · exact .inr (.inl h)
      · exact .inr (.inr h)
    · rintro (h | h | h)
      · exact .inl (.inl h)
      · exact .inl (.inr h)
      · exact .inr h
theorem addK_nd {ns : List Int} {n : Int} (h : ns.Nodup) : (addK ns n).Nodup := by
  unfold addK
  by_cases c : n ∈ ns
  · rw [if_pos c]
    exact h
  · rw [if_neg c]
    refine List.nodup_append.mpr ⟨h, by simp, fun a ha b hb e => ?_⟩
    rw [List.mem_singleton.mp hb] at e
    rw [e] at ha
    exact c ha
theorem foldK_nd : ∀ (ms ns : List Int), ns.Nodup → (ms.foldl addK ns).Nodup
  | [], _, h => h
  | m :: ms, ns, h => foldK_nd ms _ (addK_nd h)
section
variable {K : PySem.W.Frag} {H : Hp} {Q : VK} {a l b : Addr} {ns : List Int} {n : Int} {σ : L2.St} {xs ys : List V} {P : Hp → Prop}
theorem i_sorted (h : SqL K H a (ns.map V.int)) (q : ∀ (ns' : List Int) (p : Addr), ns'.Perm ns → ns'.Pairwise (· ≤ ·) → Fr H p → Q (.ref p) (upd H p (.lst (ns'.map V.int)))) :
    rSortedI K [.ref a] H Q := ⟨a, ns, rfl, h, fun ns' p h1 h2 h3 => q ns' p h1 h2 ⟨h3⟩⟩
theorem i_listD (h : H a = some (.dK (ns.map kT))) (q : New H fun p => Q (.ref p) (upd H p (.lst (ns.map V.int)))) : rListD [.ref a] H Q := by
  refine ⟨a, _, rfl, Rd.of h, fun p hp => ?_⟩
  have e : ((ns.map kT).map fun kv => kV kv.1) = ns.map V.int := by
    rw [List.map_map]
    rfl
  rw [e]
  exact q p hp
theorem i_setD (h : H a = some (.dK (ns.map kT))) (hl : ns.length ≤ 1000000) (q : P (upd H a (.dK ((addK ns n).map kT)))) :
    rSetD (.ref a) (.int n) (.bl true) H P := by
  refine ⟨a, _, rfl, DPut.k (k := .inl n) h (by rw [List.length_map]; exact small_sz hl), ?_⟩
  rw [put_kT]
  exact q
theorem i_dict0 (q : New H fun p => Q (.ref p) (upd (upd H p (.dK [])) p (.dK ([(0 : Int)].map kT)))) : tDisp [(tC (.int 0), tC (.bl true))] σ H Q :=
  fun p hp => ⟨upd_same, [kT 0], rfl, by decide, q p hp⟩
theorem i_extend (h1 : H l = some (.lst xs)) (h2 : H b = some (.lst ys)) (hz : xs.length + ys.length ≤ 1000000) (q : Q .non (upd H l (.lst (xs ++ ys)))) :
    rExtend (.ref l) [.ref b] H Q := ⟨l, b, xs, ys, rfl, rfl, h1, h2, Nat.le_trans hz (by decide), q⟩
end
section
variable {σ : L2.St} {H H1 : Hp} {Q : VK} {d : Addr} {g : TG} {tt : TT} {te td : TE} {vs : List Nat} {o : Obj} {ns : List Int}
def LcB (J : It) (g : TG) (tt : TT) (te : TE) (vs : List Nat) (σ : L2.St) (H1 : Hp) (Q : VK) : Prop := ∀ D, H1 D = none →
    ∃ W : Nat → Nat → Hp → Prop, (∃ m, W 0 m (upd H1 D (.lst []))) ∧ ∀ i m H, W i m H →
      (J.stop i H ∧ Q (.ref D) H) ∨ (J.go i H ∧ ∃ Nx : Hp → Prop,
        (∀ H', Nx H' → ∃ m', m' < m ∧ W (i + 1) m' H') ∧
        ∀ x H', J.yld i H x H' → g x (wipe σ vs) H' fun σ2 H2 => wipe σ2 vs = wipe σ vs ∧ tt σ2 H2 fun b H3 =>
          if b = true then te σ2 H3 fun y H4 => ∃ acc, H4 D = some (.lst acc) ∧ acc.length < sizeLine ∧
            Nx (upd H4 D (.lst (acc ++ [y]))) else Nx H3)
def LcK (x : V) (g : TG) (tt : TT) (te : TE) (vs : List Nat) (σ : L2.St) (H1 : Hp) (Q : VK) : Prop := ∃ d o, x = .ref d ∧
  ((∃ kvs, H1 d = some (.frz o (.dK kvs)) ∧ LcB (Itk d o kvs) g tt te vs σ H1 Q) ∨ ∃ kvs, H1 d = some (.frz o (.dT kvs)) ∧ LcB (Itkt d o kvs) g tt te vs σ H1 Q)
theorem i_lcK (h : td σ H fun x H1 => LcK x g tt te vs σ H1 Q) : tLc (iKeys td) g tt te vs σ H Q := h
theorem i_keyz (hd : H d = some (.frz o (.dK (ns.map kT)))) (Pv : Addr → Nat → Hp → Prop)
    (h0 : ∀ R, Fr H R → Pv R 0 (upd H R (.lst [])))
    (hl : ∀ R i H', Fr H R → Pv R i H' → H' d = some (.frz o (.dK (ns.map kT))))
    (st : ∀ R i n H', Fr H R → ns[i]? = some n → Pv R i H' → g (.int n) (wipe σ vs) H' fun σ2 H2 =>
      wipe σ2 vs = wipe σ vs ∧ tt σ2 H2 fun b H3 => if b = true then te σ2 H3 fun y H4 =>
        ∃ acc, H4 R = some (.lst acc) ∧ acc.length < sizeLine ∧ Pv R (i + 1) (upd H4 R (.lst (acc ++ [y])))
        else Pv R (i + 1) H3)
    (hdn : ∀ R H', Fr H R → Pv R ns.length H' → Q (.ref R) H') : LcK (.ref d) g tt te vs σ H Q := by
  refine ⟨d, o, rfl, .inl ⟨_, hd, fun R hR => ⟨fun i m H' => m = ns.length - i ∧ i ≤ ns.length ∧ Pv R i H', ⟨_, rfl, Nat.zero_le _, h0 R ⟨hR⟩⟩, ?_⟩⟩⟩
  rintro i m H' ⟨rfl, hi, z⟩
  have q := hl R i H' ⟨hR⟩ z
  by_cases c : i < ns.length
  · refine .inr ⟨⟨q, by rw [List.length_map]; exact c⟩, Pv R (i + 1), fun H2 w => ⟨_, by omega, rfl, c, w⟩, ?_⟩
    rintro x H2 ⟨rfl, k, v, e, rfl⟩
    obtain ⟨n, hn, e2⟩ := map_get e
    cases e2
    exact st R i n _ ⟨hR⟩ hn z
  · have e : i = ns.length := by omega
    exact .inl ⟨⟨q, by rw [List.length_map]; omega⟩, hdn R H' ⟨hR⟩ (by rw [← e]; exact z)⟩
end

/-! ### dicts whose keys are numbers, whatever they hold -/
theorem k_fldaug {X : Cx} {K : PySem.W.Frag} {op : Operator} {rd : V → V → Hp → VK → Prop} {o value : Expr} {f : Str} {pos tpos : Pos} {ta tv : TE} (h : X.K = K) (ha : PE X o ta) (hv : PE X value tv) (hop : InOp X op rd) :
    PS X (.AugAssign (.Attribute o f tpos) op value pos) (sFldAug K ta tv rd f) := h ▸ ps_fldaug ha hv hop
theorem k_sortedP {X : Cx} {K : PySem.W.Frag} (h : X.K = K) : CallR X (.builtin "sorted") (rSortedPO K) := h ▸ cr_sortedPO
section
variable {K : PySem.W.Frag} {σ : L2.St} {H H1 : Hp} {Q : VK} {D : Ends} {a d : Addr} {kvs : List (Key × V)} {n : Int} {v : V} {td ty tv : TE} {P : Hp → Prop}
def FldA (K : PySem.W.Frag) (x : V) (tv : TE) (rd : V → V → Hp → VK → Prop) (f : Str) (D : Ends) (σ : L2.St) (H1 : Hp) : Prop :=
  ∃ a C dx fs v, x = .ref a ∧ H1 a = some (.ins C dx fs) ∧ Cls K C ∧ NoAttr K C f ∧ fs.lookup f = some v ∧
  tv σ H1 fun y H2 => rd v y H2 fun z H3 => ∃ dx' fs', H3 a = some (.ins C dx' fs') ∧ fs'.length < 1000 ∧ D.nx σ (upd H3 a (.ins C dx' (putF f z fs')))
theorem i_fldaug {rd : V → V → Hp → VK → Prop} {f : Str} (h : td σ H fun x H1 => FldA K x tv rd f D σ H1) : sFldAug K td tv rd f D σ H := h
theorem i_fldaR {rd : V → V → Hp → VK → Prop} {f : Str} {C dx : Addr} {fs : List (Str × V)} {v : V} (ho : H a = some (.ins C dx fs)) (c : Cls K C) (nn : NoAttr K C f) (hl : fs.lookup f = some v)
    (h : tv σ H fun y H2 => rd v y H2 fun z H3 => ∃ dx' fs', H3 a = some (.ins C dx' fs') ∧ fs'.length < 1000 ∧ D.nx σ (upd H3 a (.ins C dx' (putF f z fs')))) : FldA K (.ref a) tv rd f D σ H := ⟨a, C, dx, fs, v, rfl, ho, c, nn, hl, h⟩
def DG (x y : V) (H : Hp) (Q : VK) : Prop := ∃ a v, x = .ref a ∧ DGet H a y (some v) ∧ Q v H
theorem i_dget (h : td σ H fun x H1 => ty σ H1 fun y H2 => DG x y H2 Q) : tDGet td ty σ H Q := h
theorem i_dg (hd : H a = some (.dK kvs)) (hv : valV kvs (.inl n) = some v) (q : Q v H) : DG (.ref a) (.int n) H Q :=
  ⟨a, v, rfl, by
    have e := DGet.k (k := .inl n) hd
    rw [hv] at e
    exact e, q⟩
def DIn (y x : V) (H : Hp) (Q : VK) : Prop := ∃ a o, x = .ref a ∧ DGet H a y o ∧ Q (.bl o.isSome) H
def DNin (y x : V) (H : Hp) (Q : VK) : Prop := ∃ a o, x = .ref a ∧ DGet H a y o ∧ Q (.bl (!o.isSome)) H
theorem i_din (h : ty σ H fun y H1 => td σ H1 fun x H2 => DIn y x H2 Q) : tDIn ty td σ H Q := h
theorem i_dnin (h : ty σ H fun y H1 => td σ H1 fun x H2 => DNin y x H2 Q) : tDNotIn ty td σ H Q := h
theorem i_di (hd : H a = some (.dK kvs)) (q : Q (.bl (valV kvs (.inl n)).isSome) H) : DIn (.int n) (.ref a) H Q := ⟨a, _, rfl, DGet.k (k := .inl n) hd, q⟩
theorem i_dni (hd : H a = some (.dK kvs)) (q : Q (.bl (!(valV kvs (.inl n)).isSome)) H) : DNin (.int n) (.ref a) H Q := ⟨a, _, rfl, DGet.k (k := .inl n) hd, q⟩
theorem i_setK (hd : H a = some (.dK kvs)) (hl : kvs.length ≤ 1000000) (q : P (upd H a (.dK (putK kvs (.inl n) v)))) : rSetD (.ref a) (.int n) v H P :=
  ⟨a, _, rfl, DPut.k (k := .inl n) hd (small_sz hl), q⟩
def DP1 (x : V) (ty : TE) (σ : L2.St) (H1 : Hp) (Q : VK) : Prop := ∃ a, x = .ref a ∧ IsD H1 a ∧ ty σ H1 fun y H2 => ∃ kvs k v, H2 a = some (.dK kvs) ∧ y = kV k ∧ valV kvs k = some v ∧ Q v (upd H2 a (.dK (dropK kvs k)))
def DP2 (a : Addr) (y : V) (H2 : Hp) (Q : VK) : Prop := ∃ kvs k v, H2 a = some (.dK kvs) ∧ y = kV k ∧ valV kvs k = some v ∧ Q v (upd H2 a (.dK (dropK kvs k)))
theorem i_dpop (h : td σ H fun x H1 => DP1 x ty σ H1 Q) : tDPop1 td ty σ H Q := h
theorem i_dp1 (hd : H a = some (.dK kvs)) (h : ty σ H fun y H2 => DP2 a y H2 Q) : DP1 (.ref a) ty σ H Q := ⟨a, rfl, .inl ⟨_, Rd.of hd⟩, h⟩
theorem i_dp2 (hd : H a = some (.dK kvs)) (hv : valV kvs (.inl n) = some v) (q : Q v (upd H a (.dK (dropK kvs (.inl n))))) : DP2 a (.int n) H Q := ⟨_, .inl n, v, hd, rfl, hv, q⟩
theorem i_lockE {t : TE} (h : H d = some (.dK kvs)) (k : ∀ od, t σ (upd H d (.frz od (.dK kvs))) fun v H' => H' d = some (.frz od (.dK kvs)) ∧ Q v (upd H' d (.dK kvs))) : tLockE t σ H Q := ⟨d, _, h, trivial, k⟩
theorem i_remove {l : Addr} {ns : List Int} {k : Int} (hl : H l = some (.lst (ns.map V.int))) (hk : k ∈ ns) (q : Q .non (upd H l (.lst ((ns.erase k).map V.int)))) : rRemI (.ref l) [.int k] H Q := by
  obtain ⟨j, j1, j2, j3, j4⟩ := first_at hk
  refine ⟨l, ns, k, j, rfl, rfl, hl, j2, j3, ?_⟩
  rw [j4]
  exact q
theorem i_popV {l : Addr} {xs : List V} {y : V} (hl : H l = some (.lst (xs ++ [y]))) (q : Q y (upd H l (.lst xs))) : rPop (.ref l) [] H Q := by
  refine ⟨l, _, y, rfl, rfl, hl, ?_, ?_⟩
  · rw [List.length_append, List.length_singleton, Nat.add_sub_cancel]
    exact List.getElem?_concat_length
  · rw [List.dropLast_concat]
    exact q
theorem flat_ints (ns : List Int) : (ns.map V.int).all flatV = true := by
  rw [List.all_eq_true]
  intro v hv
  obtain ⟨n, _, rfl⟩ := List.mem_map.mp hv
  rfl
theorem inV_ints {k : Int} : ∀ ns : List Int, inV (.int k) (ns.map V.int) = decide (k ∈ ns)
  | [] => rfl
  | n :: ns => by
    have ih := inV_ints (k := k) ns
    unfold inV at ih ⊢
    rw [List.map_cons, List.any_cons, ih]
    by_cases c : n = k
    · subst c
      simp [eqV]
    · have c2 : ¬ k = n := fun z => c z.symm
      simp [eqV, c, c2]
theorem i_inI {l : Addr} {ns : List Int} {k : Int} (hl : SqL K H l (ns.map V.int)) (q : Q (.bl (decide (k ∈ ns))) H) : rIn K false (.int k) (.ref l) H Q := by
  refine ⟨l, _, rfl, .inl hl, rfl, flat_ints ns, ?_⟩
  rw [inV_ints]
  exact q
theorem i_ninI {l : Addr} {ns : List Int} {k : Int} (hl : SqL K H l (ns.map V.int)) (q : Q (.bl (!decide (k ∈ ns))) H) : rIn K true (.int k) (.ref l) H Q := by
  refine ⟨l, _, rfl, .inl hl, rfl, flat_ints ns, ?_⟩
  rw [inV_ints]
  exact q
end
theorem kp_unl {H3 H4 : Hp} {d : Addr} {u v : HO} (h : H3 d = some u) (nu : ¬ Fix u) (k : Kp [] (upd H3 d v) H4) : Kp [] H3 (upd H4 d u) := by
  refine ⟨fun a o e n => ?_, fun a o e f => ?_, fun a o e => ?_⟩
  · by_cases z : a = d
    · subst z
      rw [h] at e
      cases e
      exact upd_same
    · rw [upd_ne z]
      exact k.at_ a o (by rw [upd_ne z]; exact e) not_nil
  · have z : a ≠ d := by
      intro z
      subst z
      rw [h] at e
      cases e
      exact nu f
    rw [upd_ne z]
    exact k.at_ a o (by rw [upd_ne z]; exact e) not_nil
  · by_cases z : a = d
    · exact ⟨u, by rw [z]; exact upd_same⟩
    · rw [upd_ne z]
      exact ⟨o, k.at_ a o (by rw [upd_ne z]; exact e) not_nil⟩
section
variable {K : PySem.W.Frag} {σ : L2.St} {H H1 : Hp} {Q : VK} {d : Addr} {g g1 : TG} {tt tt1 : TT} {te td te1 : TE} {vs vs1 : List Nat} {o : Obj} {kvs : List (Key × V)}
/-- a comprehension over the keys -/
theorem i_keyG (hd : H d = some (.frz o (.dK kvs))) (Pv : Addr → Nat → Hp → Prop)
    (h0 : ∀ R, Fr H R → Pv R 0 (upd H R (.lst [])))
    (hl : ∀ R i H', Fr H R → Pv R i H' → H' d = some (.frz o (.dK kvs)))
    (st : ∀ R i k v H', Fr H R → kvs[i]? = some (k, v) → Pv R i H' → g (kV k) (wipe σ vs) H' fun σ2 H2 =>
      wipe σ2 vs = wipe σ vs ∧ tt σ2 H2 fun b H3 => if b = true then te σ2 H3 fun y H4 =>
        ∃ acc, H4 R = some (.lst acc) ∧ acc.length < sizeLine ∧ Pv R (i + 1) (upd H4 R (.lst (acc ++ [y])))
        else Pv R (i + 1) H3)
    (hdn : ∀ R H', Fr H R → Pv R kvs.length H' → Q (.ref R) H') : LcK (.ref d) g tt te vs σ H Q := by
  refine ⟨d, o, rfl, .inl ⟨_, hd, fun R hR => ⟨fun i m H' => m = kvs.length - i ∧ i ≤ kvs.length ∧ Pv R i H', ⟨_, rfl, Nat.zero_le _, h0 R ⟨hR⟩⟩, ?_⟩⟩⟩
  rintro i m H' ⟨rfl, hi, z⟩
  have q := hl R i H' ⟨hR⟩ z
  by_cases c : i < kvs.length
  · refine .inr ⟨⟨q, c⟩, Pv R (i + 1), fun H2 w => ⟨_, by omega, rfl, c, w⟩, ?_⟩
    rintro x H2 ⟨rfl, k, v, e, rfl⟩
    exact st R i k v _ ⟨hR⟩ e z
  · have e : i = kvs.length := by omega
    exact .inl ⟨⟨q, by omega⟩, hdn R H' ⟨hR⟩ (by rw [← e]; exact z)⟩
/-- the walk of the second clause of a comprehension -/
def In2 (J1 : It) (g1 : TG) (tt1 : TT) (te : TE) (vs1 : List Nat) (σ2 : L2.St) (D : Addr) (Nx : Hp → Prop) (H4 : Hp) : Prop := ∃ W1 : Nat → Nat → Hp → Prop, (∃ m, W1 0 m H4) ∧ ∀ j k H, W1 j k H →
      (J1.stop j H ∧ Nx H) ∨ (J1.go j H ∧ ∃ Nx1 : Hp → Prop, (∀ H', Nx1 H' → ∃ k', k' < k ∧ W1 (j + 1) k' H') ∧ ∀ x H', J1.yld j H x H' → g1 x (wipe σ2 vs1) H' fun σ3 H5 => wipe σ3 vs1 = wipe σ2 vs1 ∧ tt1 σ3 H5 fun b H6 =>
        if b = true then te σ3 H6 fun y H7 => ∃ acc, H7 D = some (.lst acc) ∧ acc.length < sizeLine ∧ Nx1 (upd H7 D (.lst (acc ++ [y]))) else Nx1 H6)
def Lc2I (x : V) (g : TG) (tt : TT) (wi1 : TI) (g1 : TG) (tt1 : TT) (te : TE) (vs vs1 : List Nat) (σ : L2.St) (H1 : Hp) (Q : VK) : Prop := ∃ d o kvs, x = .ref d ∧ H1 d = some (.frz o (.dK kvs)) ∧
  ∀ D, H1 D = none → ∃ W : Nat → Nat → Hp → Prop, (∃ m, W 0 m (upd H1 D (.lst []))) ∧ ∀ i m H, W i m H →
  ((Iti d o kvs).stop i H ∧ Q (.ref D) H) ∨ ((Iti d o kvs).go i H ∧ ∃ Nx : Hp → Prop, (∀ H', Nx H' → ∃ m', m' < m ∧ W (i + 1) m' H') ∧ ∀ x H', (Iti d o kvs).yld i H x H' → g x (wipe σ vs) H' fun σ2 H2 => wipe σ2 vs = wipe σ vs ∧ tt σ2 H2 fun b H3 =>
    if b = true then wi1 σ2 H3 fun J1 H4 => In2 J1 g1 tt1 te vs1 σ2 D Nx H4 else Nx H3)
theorem i_lc2I {wi1 : TI} (h : td σ H fun x H1 => Lc2I x g tt wi1 g1 tt1 te vs vs1 σ H1 Q) : tLc2 (iItems td) g tt wi1 g1 tt1 te vs vs1 σ H Q := h
theorem i_itemG {wi1 : TI} (hd : H d = some (.frz o (.dK kvs))) (Pv : Addr → Nat → Hp → Prop)
    (h0 : ∀ R, Fr H R → Pv R 0 (upd H R (.lst [])))
    (hl : ∀ R i H', Fr H R → Pv R i H' → H' d = some (.frz o (.dK kvs)))
    (st : ∀ R i k v T H', Fr H R → kvs[i]? = some (k, v) → Pv R i H' → Fr H' T → g (.ref T) (wipe σ vs) (upd H' T (.tup [kV k, v])) fun σ2 H2 =>
      wipe σ2 vs = wipe σ vs ∧ tt σ2 H2 fun b H3 => if b = true then wi1 σ2 H3 fun J1 H4 => In2 J1 g1 tt1 te vs1 σ2 R (Pv R (i + 1)) H4 else Pv R (i + 1) H3)
    (hdn : ∀ R H', Fr H R → Pv R kvs.length H' → Q (.ref R) H') : Lc2I (.ref d) g tt wi1 g1 tt1 te vs vs1 σ H Q := by
  refine ⟨d, o, _, rfl, hd, fun R hR => ⟨fun i m H' => m = kvs.length - i ∧ i ≤ kvs.length ∧ Pv R i H', ⟨_, rfl, Nat.zero_le _, h0 R ⟨hR⟩⟩, ?_⟩⟩
  rintro i m H' ⟨rfl, hi, z⟩
  have q := hl R i H' ⟨hR⟩ z
  by_cases c : i < kvs.length
  · refine .inr ⟨⟨q, c⟩, Pv R (i + 1), fun H2 w => ⟨_, by omega, rfl, c, w⟩, ?_⟩
    rintro x H2 ⟨T, k, v, e, rfl, hT, rfl⟩
    exact st R i k v T _ ⟨hR⟩ e z ⟨hT⟩
  · have e : i = kvs.length := by omega
    exact .inl ⟨⟨q, by omega⟩, hdn R H' ⟨hR⟩ (by rw [← e]; exact z)⟩
theorem i_in2L {R : Addr} {Nx : Hp → Prop} {σ2 : L2.St} (h : te1 σ2 H fun x H1 => ∃ a, x = .ref a ∧ (∃ xs, SqL K H1 a xs) ∧ In2 (Itl K a) g1 tt1 te vs1 σ2 R Nx H1) :
    iList K te1 σ2 H fun J1 H4 => In2 J1 g1 tt1 te vs1 σ2 R Nx H4 := h
theorem i_inL {a R : Addr} {xs : List V} {Nx : Hp → Prop} {σ2 : L2.St} (hs : SqL K H a xs) (P1 : Nat → Hp → Prop) (h0 : P1 0 H)
    (hl : ∀ j H', j ≤ xs.length → P1 j H' → SqL K H' a xs)
    (st : ∀ j x H', xs[j]? = some x → P1 j H' → g1 x (wipe σ2 vs1) H' fun σ3 H5 => wipe σ3 vs1 = wipe σ2 vs1 ∧ tt1 σ3 H5 fun b H6 =>
        if b = true then te σ3 H6 fun y H7 => ∃ acc, H7 R = some (.lst acc) ∧ acc.length < sizeLine ∧ P1 (j + 1) (upd H7 R (.lst (acc ++ [y]))) else P1 (j + 1) H6)
    (hdn : ∀ H', P1 xs.length H' → Nx H') : ∃ a', V.ref a = .ref a' ∧ (∃ xs, SqL K H a' xs) ∧ In2 (Itl K a') g1 tt1 te vs1 σ2 R Nx H := by
  refine ⟨a, rfl, ⟨_, hs⟩, fun i m H' => m = xs.length - i ∧ i ≤ xs.length ∧ P1 i H', ⟨_, rfl, Nat.zero_le _, h0⟩, ?_⟩
  rintro i m H' ⟨rfl, hi, z⟩
  have q := hl i H' hi z
  by_cases c : i < xs.length
  · refine .inr ⟨⟨xs, xs[i], q, List.getElem?_eq_getElem c⟩, P1 (i + 1), fun H2 w => ⟨_, by omega, rfl, c, w⟩, fun x H2 y => ?_⟩
    obtain ⟨e, y⟩ := y
    subst e
    exact st i x _ (y xs q) z
  · have e : i = xs.length := by omega
    subst e
    exact .inl ⟨⟨xs, q, Nat.le_refl _⟩, hdn _ z⟩
/-- a dict comprehension over the keys -/
def DcB (J : It) (g : TG) (tt : TT) (tk tv : TE) (vs : List Nat) (σ : L2.St) (H1 : Hp) (Q : VK) : Prop := ∀ D, H1 D = none → ∃ W : Nat → Nat → Hp → Prop, (∃ m, W 0 m (upd H1 D (.dK []))) ∧ ∀ i m H, W i m H →
  (J.stop i H ∧ Q (.ref D) H) ∨ (J.go i H ∧ ∃ Nx : Hp → Prop, (∀ H', Nx H' → ∃ m', m' < m ∧ W (i + 1) m' H') ∧ ∀ x H', J.yld i H x H' → g x (wipe σ vs) H' fun σ2 H2 => wipe σ2 vs = wipe σ vs ∧ tt σ2 H2 fun b H3 =>
    if b = true then tk σ2 H3 fun y H4 => tv σ2 H4 fun z H5 => ∃ kvs k, y = kV k ∧ H5 D = some (.dK kvs) ∧ kvs.length < sizeLine ∧ Nx (upd H5 D (.dK (putK kvs k z))) else Nx H3)
def DcK (x : V) (g : TG) (tt : TT) (tk tv : TE) (vs : List Nat) (σ : L2.St) (H1 : Hp) (Q : VK) : Prop := ∃ d o, x = .ref d ∧
  ((∃ kvs, H1 d = some (.frz o (.dK kvs)) ∧ DcB (Itk d o kvs) g tt tk tv vs σ H1 Q) ∨ ∃ kvs, H1 d = some (.frz o (.dT kvs)) ∧ DcB (Itkt d o kvs) g tt tk tv vs σ H1 Q)
theorem i_dcK {tk tv : TE} (h : td σ H fun x H1 => DcK x g tt tk tv vs σ H1 Q) : tDc (iKeys td) g tt tk tv vs σ H Q := h
theorem i_dkeyG {tk tv : TE} (hd : H d = some (.frz o (.dK kvs))) (Pv : Addr → Nat → Hp → Prop)
    (h0 : ∀ R, Fr H R → Pv R 0 (upd H R (.dK [])))
    (hl : ∀ R i H', Fr H R → Pv R i H' → H' d = some (.frz o (.dK kvs)))
    (st : ∀ R i k v H', Fr H R → kvs[i]? = some (k, v) → Pv R i H' → g (kV k) (wipe σ vs) H' fun σ2 H2 =>
      wipe σ2 vs = wipe σ vs ∧ tt σ2 H2 fun b H3 => if b = true then tk σ2 H3 fun y H4 => tv σ2 H4 fun z H5 => ∃ kvs k, y = kV k ∧ H5 R = some (.dK kvs) ∧ kvs.length < sizeLine ∧ Pv R (i + 1) (upd H5 R (.dK (putK kvs k z))) else Pv R (i + 1) H3)
    (hdn : ∀ R H', Fr H R → Pv R kvs.length H' → Q (.ref R) H') : DcK (.ref d) g tt tk tv vs σ H Q := by
  refine ⟨d, o, rfl, .inl ⟨_, hd, fun R hR => ⟨fun i m H' => m = kvs.length - i ∧ i ≤ kvs.length ∧ Pv R i H', ⟨_, rfl, Nat.zero_le _, h0 R ⟨hR⟩⟩, ?_⟩⟩⟩
  rintro i m H' ⟨rfl, hi, z⟩
  have q := hl R i H' ⟨hR⟩ z
  by_cases c : i < kvs.length
  · refine .inr ⟨⟨q, c⟩, Pv R (i + 1), fun H2 w => ⟨_, by omega, rfl, c, w⟩, ?_⟩
    rintro x H2 ⟨rfl, k, v, e, rfl⟩
    exact st R i k v _ ⟨hR⟩ e z
  · have e : i = kvs.length := by omega
    exact .inl ⟨⟨q, by omega⟩, hdn R H' ⟨hR⟩ (by rw [← e]; exact z)⟩
end
--%%M
local macro_rules | `(tactic| walk_at "g_own") => `(tactic| first
  | (with_reducible refine i_fldaug ?_)
  | ((with_reducible apply i_fldaR ?h ?c ?n ?g ?_); (case h => walk_at "g_hp"); (case c => with_reducible assumption); (case n => with_reducible assumption); (case g => exact rfl))
  | (with_reducible refine i_dget ?_)
  | (with_reducible refine i_din ?_)
  | (with_reducible refine i_dnin ?_)
  | (with_reducible refine i_dpop ?_)
  | ((with_reducible apply i_di ?h ?_); (case h => walk_at "g_hp"))
  | ((with_reducible apply i_dni ?h ?_); (case h => walk_at "g_hp"))
  | ((with_reducible apply i_dp1 ?h ?_); (case h => walk_at "g_hp"))
  | (with_reducible refine i_lc2I ?_)
  | (with_reducible refine i_lcK ?_)
  | (with_reducible refine i_dcK ?_)
  | ((with_reducible apply i_inI ?h ?_); (case h => walk_at "g_sq"))
  | ((with_reducible apply i_ninI ?h ?_); (case h => walk_at "g_sq")))
--%%E

/-! ### lists of pairs, sorted -/
def PrsAt (H : Hp) : List V → List (Int × Int) → Prop
  | [], [] => True
  | x :: xs, q :: ps => (∃ t, x = .ref t ∧ H t = some (.tup [.int q.1, .int q.2])) ∧ PrsAt H xs ps
  | _, _ => False
theorem PrsAt.len {H : Hp} : ∀ {xs : List V} {ps : List (Int × Int)}, PrsAt H xs ps → xs.length = ps.length
  | [], [], _ => rfl
  | _ :: _, _ :: _, h => by rw [List.length_cons, List.length_cons, PrsAt.len h.2]
  | [], _ :: _, h => h.elim
  | _ :: _, [], h => h.elim
theorem PrsAt.kp {H H' : Hp} {ws : List Addr} (k : Kp ws H H') : ∀ {xs : List V} {ps : List (Int × Int)}, PrsAt H xs ps → PrsAt H' xs ps
  | [], [], _ => trivial
  | _ :: _, _ :: _, ⟨⟨t, e, h⟩, r⟩ => ⟨⟨t, e, k.fix _ _ h trivial⟩, PrsAt.kp k r⟩
  | [], _ :: _, h => h.elim
  | _ :: _, [], h => h.elim
theorem PrsAt.snoc {H : Hp} {t : Addr} {q : Int × Int} (e : H t = some (.tup [.int q.1, .int q.2])) : ∀ {xs : List V} {ps : List (Int × Int)}, PrsAt H xs ps → PrsAt H (xs ++ [.ref t]) (ps ++ [q])
  | [], [], _ => ⟨⟨t, rfl, e⟩, trivial⟩
  | _ :: _, _ :: _, ⟨a, r⟩ => ⟨a, PrsAt.snoc e r⟩
  | [], _ :: _, h => h.elim
  | _ :: _, [], h => h.elim
theorem PrsAt.dpa {K : PySem.W.Frag} {H : Hp} : ∀ {xs : List V} {ps : List (Int × Int)}, PrsAt H xs ps → DpAll K H xs (ps.map d2)
  | [], [], _ => .nil
  | _ :: _, q :: _, ⟨⟨t, e, h⟩, r⟩ => by
    subst e
    exact .cons (dp_mk2 (.inl (Rd.of h))) (PrsAt.dpa r)
  | [], _ :: _, h => h.elim
  | _ :: _, [], h => h.elim
def kOfO : Option HO → Int × Int
  | some (.tup [.int a, .int b]) => (a, b)
  | _ => (0, 0)
def kOf (H : Hp) (x : V) : Int × Int :=
  match x with
  | .ref t => kOfO (H t)
  | _ => (0, 0)
theorem kOf_at {H : Hp} {t : Addr} {q : Int × Int} (h : H t = some (.tup [.int q.1, .int q.2])) : kOf H (.ref t) = q := by
  show kOfO (H t) = q
  rw [h]
  rfl
theorem PrsAt.key {H : Hp} : ∀ {xs : List V} {ps : List (Int × Int)}, PrsAt H xs ps → ∀ x ∈ xs, ∃ t, x = .ref t ∧ H t = some (.tup [.int (kOf H x).1, .int (kOf H x).2])
  | [], [], _, x, hx => by cases hx
  | y :: _, q :: _, ⟨⟨t, e, h⟩, r⟩, x, hx => by
    rcases List.mem_cons.mp hx with z | z
    · subst z
      subst e
      refine ⟨t, rfl, ?_⟩
      rw [kOf_at h]
      exact h
    · exact PrsAt.key r x z
  | [], _ :: _, h, _, _ => h.elim
  | _ :: _, [], h, _, _ => h.elim
theorem PrsAt.map {H : Hp} : ∀ {xs : List V} {ps : List (Int × Int)}, PrsAt H xs ps → xs.map (kOf H) = ps
  | [], [], _ => rfl
  | y :: _, q :: _, ⟨⟨t, e, h⟩, r⟩ => by
    subst e
    rw [List.map_cons, PrsAt.map r, kOf_at h]
  | [], _ :: _, h => h.elim
  | _ :: _, [], h => h.elim
theorem PrsAt.of {H : Hp} : ∀ {xs : List V}, (∀ x ∈ xs, ∃ t, x = .ref t ∧ H t = some (.tup [.int (kOf H x).1, .int (kOf H x).2])) → PrsAt H xs (xs.map (kOf H))
  | [], _ => trivial
  | x :: xs, h => ⟨h x List.mem_cons_self, PrsAt.of fun y hy => h y (List.mem_cons_of_mem _ hy)⟩
def ltQ (p q : Int × Int) : Prop := p.1 < q.1 ∨ (p.1 = q.1 ∧ p.2 < q.2)
/-- sorted of a list of pairs no two of which are alike -/
theorem i_sortedP {K : PySem.W.Frag} {H : Hp} {Q : VK} {a : Addr} {xs : List V} {ps : List (Int × Int)} (h : H a = some (.lst xs)) (r : PrsAt H xs ps) (nd : ps.Nodup)
    (q : ∀ (rs : List (Int × Int)) (R : Addr) (H' : Hp), Fr H R → Kp [] H H' → LD K H' R (rs.map d2) → rs.Perm ps → rs.Pairwise ltQ → Q (.ref R) H') : rSortedPO K [.ref a] H Q := by
  refine ⟨a, xs, kOf H, rfl, SqL.of h, r.key, fun ys p s1 s2 hp => ?_⟩
  have pm := s2.perm
  have key : ∀ x ∈ ys, ∃ t, x = .ref t ∧ H t = some (.tup [.int (kOf H x).1, .int (kOf H x).2]) := fun x hx => r.key x (pm.mem_iff.mp hx)
  have pm2 : (ys.map (kOf H)).Perm ps := by
    have e := pm.map (kOf H)
    rw [r.map] at e
    exact e
  have k : Kp [] H (upd H p (.lst ys)) := Kp.new ⟨hp⟩
  refine q (ys.map (kOf H)) p _ ⟨hp⟩ k ⟨ys, upd_same, (PrsAt.kp k (PrsAt.of key)).dpa⟩ pm2 ?_
  have nd2 : (ys.map (kOf H)).Nodup := pm2.nodup_iff.mpr nd
  have s3 : (ys.map (kOf H)).Pairwise fun p q => SrtO.lexB q p = false := List.pairwise_map.mpr s1
  refine (s3.and nd2).imp fun {p q} z => ?_
  have z1 := SrtO.lexB_no.mp z.1
  have z2 : p ≠ q := z.2
  unfold ltQ
  by_cases c : p.1 = q.1
  · refine .inr ⟨c, ?_⟩
    by_cases c2 : p.2 = q.2
    · exact absurd (Prod.ext c c2) z2
    · omega
  · omega
theorem pw_uniq {α : Type} {lt : α → α → Prop} (irr : ∀ a, ¬ lt a a) (asym : ∀ a b, lt a b → ¬ lt b a) : ∀ {l m : List α}, l.Pairwise lt → m.Pairwise lt → (∀ x, x ∈ l ↔ x ∈ m) → l = m
  | [], [], _, _, _ => rfl
  | [], b :: m, _, _, h => absurd ((h b).mpr List.mem_cons_self) (by simp)
  | a :: l, [], _, _, h => absurd ((h a).mp List.mem_cons_self) (by simp)
  | a :: l, b :: m, h1, h2, h => by
    rw [List.pairwise_cons] at h1 h2
    have e : a = b := by
      rcases List.mem_cons.mp ((h a).mp List.mem_cons_self) with e | e
      · exact e
      rcases List.mem_cons.mp ((h b).mpr List.mem_cons_self) with e2 | e2
      · exact e2.symm
      exact absurd (h2.1 a e) (asym _ _ (h1.1 b e2))
    subst e
    congr 1
    refine pw_uniq irr asym h1.2 h2.2 fun x => ?_
    constructor
    · intro hx
      rcases List.mem_cons.mp ((h x).mp (List.mem_cons_of_mem _ hx)) with e | e
      · subst e
        exact absurd (h1.1 _ hx) (irr _)
      · exact e
    · intro hx
      rcases List.mem_cons.mp ((h x).mpr (List.mem_cons_of_mem _ hx)) with e | e
      · subst e
        exact absurd (h2.1 _ hx) (irr _)
      · exact e
theorem ltQ_uniq {l m : List (Int × Int)} (h1 : l.Pairwise ltQ) (h2 : m.Pairwise ltQ) (h : ∀ x, x ∈ l ↔ x ∈ m) : l = m :=
  pw_uniq (fun a z => by unfold ltQ at z; omega) (fun a b z y => by unfold ltQ at z y; omega) h1 h2 h
theorem lt_uniq {l m : List Int} (h1 : l.Pairwise (· < ·)) (h2 : m.Pairwise (· < ·)) (h : ∀ x, x ∈ l ↔ x ∈ m) : l = m :=
  pw_uniq (fun a z => Int.lt_irrefl _ z) (fun a b z y => absurd (Int.lt_trans z y) (Int.lt_irrefl _)) h1 h2 h
theorem strict_of {l m : List Int} (p : l.Perm m) (nd : m.Nodup) (h : l.Pairwise (· ≤ ·)) : l.Pairwise (· < ·) := by
  have nd2 : l.Nodup := p.nodup_iff.mpr nd
  refine (h.and nd2).imp fun {a b} z => ?_
  have z2 : a ≠ b := z.2
  omega

/-! ### spread, ways -/
section
variable {D : Int → Int → Int} {ever : Int} {liv ks : List Int} {nb : Int → List Int} {goal here u : Int} {vis : List (Int × Int)} {wait : List Int}
/-- what is known of those met: q.2 stands ahead of q.1 on the way to the goal -/
structure Met (D : Int → Int → Int) (ks : List Int) (nb : Int → List Int) (goal : Int) (vis : List (Int × Int)) : Prop where
  nv : (vis.map (·.1)).Nodup
  g : (goal, goal) ∈ vis
  to : ∀ q ∈ vis, q.1 = goal ∨ (q.2 ∈ nb q.1 ∧ Btw D q.1 q.2 goal ∧ q.2 ∈ vis.map (·.1))
  sub : ∀ q ∈ vis, q.1 ∈ ks
theorem Met.start (hg : goal ∈ ks) : Met D ks nb goal [(goal, goal)] :=
  ⟨by simp, List.mem_singleton.mpr rfl, fun q hq => .inl (by rw [List.mem_singleton.mp hq]), fun q hq => by rw [List.mem_singleton.mp hq]; exact hg⟩
theorem Met.len (m : Met D ks nb goal vis) : vis.length ≤ ks.length := by
  have := sub_len m.nv (m := ks) fun x hx => by
    obtain ⟨q, hq, rfl⟩ := List.mem_map.mp hx
    exact m.sub q hq
  rw [List.length_map] at this
  exact this
theorem Tr3.back (z : Tr3 D ever liv ks nb) (hg : goal ∈ ks) (hh : here ∈ ks) (hu : u ∈ nb here) (h : here = goal ∨ ∃ p, p ∈ nb here ∧ Btw D here p goal ∧ u ≠ p) : Btw D u here goal := by
  obtain ⟨u1, u2, _⟩ := (z.rp.adj here hh u).mp hu
  rcases h with rfl | ⟨p, hp, hb, n⟩
  · have := z.t.self here (z.hU here hh)
    unfold Btw
    omega
  · obtain ⟨p1, p2, _⟩ := (z.rp.adj here hh p).mp hp
    refine z.t.join (z.hU u u1) (z.hU here hh) (z.hU p p1) (z.hU u u1) (z.hU goal hg) (Ne.symm u2) (Ne.symm p2) (z.rp.through z.t z.hU hh hu hp n) ?_ hb
    have := z.t.self u (z.hU u u1)
    unfold Btw
    omega
theorem Met.add (m : Met D ks nb goal vis) (z : Tr3 D ever liv ks nb) (hg : goal ∈ ks) (hh : here ∈ vis.map (·.1)) (hu : u ∈ nb here) (n : u ∉ vis.map (·.1)) : Met D ks nb goal (vis ++ [(u, here)]) := by
  obtain ⟨q, hq, rfl⟩ := List.mem_map.mp hh
  have hk := m.sub q hq
  obtain ⟨u1, u2, _⟩ := (z.rp.adj _ hk u).mp hu
  refine ⟨?_, List.mem_append.mpr (.inl m.g), fun r hr => ?_, fun r hr => ?_⟩
  · rw [List.map_append]
    refine List.nodup_append.mpr ⟨m.nv, by simp, fun a ha b hb e => n ?_⟩
    have e2 : a = u := e.trans (List.mem_singleton.mp hb)
    rw [e2] at ha
    exact ha
  · rw [List.map_append]
    rcases List.mem_append.mp hr with h | h
    · rcases m.to r h with e | ⟨a, b, c⟩
      · exact .inl e
      · exact .inr ⟨a, b, List.mem_append.mpr (.inl c)⟩
    · rw [List.mem_singleton.mp h]
      refine .inr ⟨z.rp.sym z.t z.hU hk hu, z.back hg hk hu ?_, List.mem_append.mpr (.inl hh)⟩
      rcases m.to q hq with e | ⟨a, b, c⟩
      · exact .inl e
      · exact .inr ⟨q.2, a, b, fun e => n (by have e : u = q.2 := e; rw [e]; exact c)⟩
  · rcases List.mem_append.mp hr with h | h
    · exact m.sub r h
    · rw [List.mem_singleton.mp h]
      exact u1
theorem Met.all (m : Met D ks nb goal vis) (z : Tr3 D ever liv ks nb) (hg : goal ∈ ks) (cl : ∀ x ∈ vis.map (·.1), ∀ y ∈ nb x, y ∈ vis.map (·.1)) : ∀ x ∈ ks, x ∈ vis.map (·.1) := by
  have key : ∀ n : Nat, ∀ x ∈ ks, D x goal ≤ n → x ∈ vis.map (·.1) := by
    intro n
    induction n with
    | zero =>
      intro x hx h
      have h1 := z.t.nn x goal (z.hU x hx) (z.hU goal hg)
      rw [z.t.eq x goal (z.hU x hx) (z.hU goal hg) (by omega)]
      exact List.mem_map.mpr ⟨_, m.g, rfl⟩
    | succ n ih =>
      intro x hx h
      by_cases c : x = goal
      · rw [c]
        exact List.mem_map.mpr ⟨_, m.g, rfl⟩
      · obtain ⟨y, hy, b⟩ := z.rp.toward z.t z.hU hx hg c
        obtain ⟨y1, y2, _⟩ := (z.rp.adj x hx y).mp hy
        have p := z.t.pos (z.hU x hx) (z.hU y y1) (Ne.symm y2)
        unfold Btw at b
        exact cl y (ih y y1 (by omega)) x (z.rp.sym z.t z.hU hx hy)
  intro x hx
  exact key (D x goal).toNat x hx (by omega)
/-- the way from the one to the other -/
structure Way (D : Int → Int → Int) (ks : List Int) (nb : Int → List Int) (one other : Int) (fs : List Int) : Prop where
  inc : fs.Pairwise (fun a b => D one a < D one b)
  mem : ∀ x, x ∈ fs ↔ x ∈ ks ∧ Btw D one x other
  adj : ∀ (i : Nat) a b, fs[i]? = some a → fs[i + 1]? = some b → b ∈ nb a
  hd : fs[0]? = some one
  la : ∃ l, fs = l ++ [other]
structure Going2 (D : Int → Int → Int) (ks : List Int) (nb : Int → List Int) (one other : Int) (fs : List Int) (l : Int) : Prop where
  inc : fs.Pairwise (fun a b => D one a < D one b)
  mem : ∀ x ∈ fs, x ∈ ks ∧ Btw D one x other
  all : ∀ x ∈ ks, Btw D one x other → x ∈ fs ∨ Btw D l x other
  adj : ∀ (i : Nat) a b, fs[i]? = some a → fs[i + 1]? = some b → b ∈ nb a
  hd : fs[0]? = some one
  la : ∃ r, fs = r ++ [l]
variable {one other l : Int} {fs gs : List Int}
theorem Going2.start (z : Tr3 D ever liv ks nb) (h1 : one ∈ ks) (h2 : other ∈ ks) : Going2 D ks nb one other [one] one := by
  refine ⟨by simp, fun x hx => ?_, fun x _ h => .inr h, fun i a b h k => ?_, rfl, [], rfl⟩
  · rw [List.mem_singleton.mp hx]
    have := z.t.self one (z.hU one h1)
    refine ⟨h1, ?_⟩
    unfold Btw
    omega
  · have := (List.getElem?_eq_some_iff.mp k).1
    rw [List.length_singleton] at this
    omega
theorem Going2.inl (g : Going2 D ks nb one other fs l) : l ∈ fs := by
  obtain ⟨r, e⟩ := g.la
  rw [e]
  exact List.mem_append.mpr (.inr (List.mem_singleton.mpr rfl))
theorem Going2.go (g : Going2 D ks nb one other fs l) (z : Tr3 D ever liv ks nb) (h1 : one ∈ ks) (h2 : other ∈ ks) {y : Int} (hy : y ∈ nb l) (hb : Btw D l y other) : Going2 D ks nb one other (fs ++ [y]) y ∧ D y other < D l other := by
  obtain ⟨l1, l2⟩ := g.mem l g.inl
  obtain ⟨y1, y2, y3⟩ := (z.rp.adj l l1 y).mp hy
  have U1 := z.hU one h1
  have U2 := z.hU other h2
  have Ul := z.hU l l1
  have Uy := z.hU y y1
  have p := z.t.pos Ul Uy (Ne.symm y2)
  have t1 := z.t.tri U1 U2 Uy
  have t2 := z.t.tri U1 Uy Ul
  have far : D one l < D one y := by
    unfold Btw at l2 hb
    omega
  have by1 : Btw D one y other := by
    unfold Btw at l2 hb ⊢
    omega
  refine ⟨⟨?_, fun x hx => ?_, fun x hx b => ?_, fun i a b ha hb2 => ?_, ?_, fs, rfl⟩, by unfold Btw at hb; omega⟩
  · refine List.pairwise_append.mpr ⟨g.inc, by simp, fun a ha b hb2 => ?_⟩
    rw [List.mem_singleton.mp hb2]
    obtain ⟨r, e⟩ := g.la
    rw [e] at ha
    rcases List.mem_append.mp ha with h | h
    · have i := g.inc
      rw [e] at i
      have := (List.pairwise_append.mp i).2.2 a h l (List.mem_singleton.mpr rfl)
      omega
    · rw [List.mem_singleton.mp h]
      exact far
  · rcases List.mem_append.mp hx with h | h
    · exact g.mem x h
    · rw [List.mem_singleton.mp h]
      exact ⟨y1, by1⟩
  · rcases g.all x hx b with h | h
    · exact .inl (List.mem_append.mpr (.inl h))
    · by_cases c : x = l
      · rw [c]
        exact .inl (List.mem_append.mpr (.inl g.inl))
      · rcases z.t.line Ul Uy U2 (z.hU x hx) hb h with k | k
        · by_cases c2 : x = y
          · rw [c2]
            exact .inl (List.mem_append.mpr (.inr (List.mem_singleton.mpr rfl)))
          · exact absurd k (y3 x hx c c2)
        · exact .inr k
  · have bl := (List.getElem?_eq_some_iff.mp hb2).1
    rw [List.length_append, List.length_singleton] at bl
    by_cases c : i + 1 < fs.length
    · rw [List.getElem?_append_left (by omega)] at ha
      rw [List.getElem?_append_left c] at hb2
      exact g.adj i a b ha hb2
    · obtain ⟨r, e⟩ := g.la
      have el : fs.length = r.length + 1 := by rw [e, List.length_append, List.length_singleton]
      rw [List.getElem?_append_left (by omega), e, List.getElem?_append_right (by omega), show i - r.length = 0 by omega] at ha
      rw [List.getElem?_append_right (by omega), show i + 1 - fs.length = 0 by omega] at hb2
      cases ha
      cases hb2
      exact hy
  · rw [List.getElem?_append_left (List.length_pos_of_mem g.inl)]
    exact g.hd
theorem Going2.way (g : Going2 D ks nb one other fs other) (z : Tr3 D ever liv ks nb) : Way D ks nb one other fs := by
  obtain ⟨l1, l2⟩ := g.mem other g.inl
  refine ⟨g.inc, fun x => ⟨g.mem x, fun ⟨h1, h2⟩ => (g.all x h1 h2).elim id fun k => ?_⟩, g.adj, g.hd, g.la⟩
  have a := z.t.nn other x (z.hU _ l1) (z.hU x h1)
  have b := z.t.nn x other (z.hU x h1) (z.hU _ l1)
  have c := z.t.self other (z.hU _ l1)
  unfold Btw at k
  rw [z.t.eq x other (z.hU x h1) (z.hU _ l1) (by omega)]
  exact g.inl
theorem Way.uniq (h : Way D ks nb one other fs) {nb' : Int → List Int} (k : Way D ks nb' one other gs) : fs = gs :=
  pw_uniq (lt := fun a b => D one a < D one b) (fun a z => Int.lt_irrefl _ z) (fun a b y z => absurd (Int.lt_trans y z) (Int.lt_irrefl _)) h.inc k.inc fun x => by rw [h.mem, k.mem]
theorem Way.rev (h : Way D ks nb one other fs) (z : Tr3 D ever liv ks nb) (h1 : one ∈ ks) (h2 : other ∈ ks) (k : Way D ks nb other one gs) : gs = fs.reverse := by
  have U1 := z.hU one h1
  have U2 := z.hU other h2
  refine pw_uniq (lt := fun a b => D other a < D other b) (fun a z => Int.lt_irrefl _ z) (fun a b y z => absurd (Int.lt_trans y z) (Int.lt_irrefl _)) k.inc ?_ fun x => ?_
  · rw [List.pairwise_reverse]
    refine h.inc.imp_of_mem fun {a b} ha hb lt => ?_
    obtain ⟨a1, a2⟩ := (h.mem a).mp ha
    obtain ⟨b1, b2⟩ := (h.mem b).mp hb
    have := z.t.sym a other (z.hU a a1) U2
    have := z.t.sym b other (z.hU b b1) U2
    unfold Btw at a2 b2
    omega
  · rw [List.mem_reverse, h.mem, k.mem]
    constructor
    · rintro ⟨a, b⟩
      exact ⟨a, b.sym z.t U2 (z.hU x a) U1⟩
    · rintro ⟨a, b⟩
      exact ⟨a, b.sym z.t U1 (z.hU x a) U2⟩
theorem Way.nd (h : Way D ks nb one other fs) : fs.Nodup := h.inc.imp fun {a b} lt e => by
  rw [e] at lt
  omega
end

/-! ### as many ties as worlds but one -/
section
variable {D : Int → Int → Int} {ever g : Int} {liv ks : List Int} {nb : Int → List Int}
theorem Tr3.one_way (z : Tr3 D ever liv ks nb) (hg : g ∈ ks) {x p q : Int} (hx : x ∈ ks) (hp : p ∈ nb x) (hq : q ∈ nb x) (bp : Btw D x p g) (bq : Btw D x q g) : p = q := by
  refine Classical.byContradiction fun n => ?_
  obtain ⟨p1, p2, _⟩ := (z.rp.adj x hx p).mp hp
  obtain ⟨q1, q2, _⟩ := (z.rp.adj x hx q).mp hq
  have th := z.rp.through z.t z.hU hx hp hq n
  have U := fun {u} (h : u ∈ ks) => z.hU u h
  have k := z.t.join (U p1) (U hx) (U q1) (U hg) (U hg) (Ne.symm p2) (Ne.symm q2) th bp bq
  have a := z.t.self g (U hg)
  have b := z.t.nn g x (U hg) (U hx)
  have c := z.t.nn x g (U hx) (U hg)
  have d := z.t.pos (U hx) (U p1) (Ne.symm p2)
  have e := z.t.nn p g (U p1) (U hg)
  unfold Btw at k bp
  omega
theorem Tr3.rows_count (z : Tr3 D ever liv ks nb) {rs : List (Int × Int)} (nd : rs.Nodup) (ro : ∀ q, q ∈ rs ↔ q.1 ∈ ks ∧ q.2 ∈ nb q.1 ∧ q.1 < q.2) (hg : g ∈ ks) : rs.length + 1 = ks.length := by
  obtain ⟨par, hpar⟩ : ∃ par : Int → Int, ∀ x ∈ ks, x ≠ g → par x ∈ nb x ∧ Btw D x (par x) g := by
    have h : ∀ x, ∃ y, x ∈ ks → x ≠ g → y ∈ nb x ∧ Btw D x y g := fun x => by
      by_cases c : x ∈ ks ∧ x ≠ g
      · obtain ⟨y, y1, y2⟩ := z.rp.toward z.t z.hU c.1 hg c.2
        exact ⟨y, fun _ _ => ⟨y1, y2⟩⟩
      · exact ⟨0, fun a b => absurd ⟨a, b⟩ c⟩
    exact ⟨fun x => Classical.choose (h x), fun x => Classical.choose_spec (h x)⟩
  have me : ∀ {x}, x ∈ ks.erase g ↔ x ≠ g ∧ x ∈ ks := fun {x} => z.nk.mem_erase_iff
  have adj : ∀ {x y}, x ∈ ks → y ∈ nb x → y ∈ ks ∧ y ≠ x ∧ x ∈ nb y := fun {x y} hx hy => by
    obtain ⟨a, b, _⟩ := (z.rp.adj x hx y).mp hy
    exact ⟨a, b, z.rp.sym z.t z.hU hx hy⟩
  have key : (((ks.erase g).map fun x => (min x (par x), max x (par x))) : List (Int × Int)).Perm rs := by
    refine (List.perm_ext_iff_of_nodup ?_ nd).mpr fun q => ?_
    · refine List.pairwise_map.mpr ((z.nk.erase g).imp_of_mem fun {x y} hx hy n e => ?_)
      obtain ⟨x1, x2⟩ := me.mp hx
      obtain ⟨y1, y2⟩ := me.mp hy
      obtain ⟨p1, p2⟩ := hpar x x2 x1
      obtain ⟨r1, r2⟩ := hpar y y2 y1
      have e1 := congrArg Prod.fst e
      have e2 := congrArg Prod.snd e
      simp only at e1 e2
      have c : x = par y ∧ y = par x := by omega
      have U := fun {u} (h : u ∈ ks) => z.hU u h
      have s1 := z.t.sym x y (U x2) (U y2)
      have s2 := z.t.pos (U x2) (U y2) n
      rw [← c.2] at p2
      rw [← c.1] at r2
      unfold Btw at p2 r2
      omega
    · rw [List.mem_map, ro]
      constructor
      · rintro ⟨x, hx, rfl⟩
        obtain ⟨x1, x2⟩ := me.mp hx
        obtain ⟨p1, p2⟩ := hpar x x2 x1
        obtain ⟨a, b, c⟩ := adj x2 p1
        by_cases l : x < par x
        · rw [Int.min_eq_left (by omega), Int.max_eq_right (by omega)]
          exact ⟨x2, p1, l⟩
        · rw [Int.min_eq_right (by omega), Int.max_eq_left (by omega)]
          exact ⟨a, c, show par x < x by omega⟩
      · rintro ⟨h1, h2, h3⟩
        obtain ⟨a, b, c⟩ := adj h1 h2
        have hit : ∀ {x y}, x ∈ ks → x ≠ g → y ∈ nb x → Btw D x y g → par x = y := fun {x y} hx n hy hb => z.one_way hg hx (hpar x hx n).1 hy (hpar x hx n).2 hb
        by_cases c1 : q.2 = g
        · have n1 : q.1 ≠ g := by omega
          refine ⟨q.1, me.mpr ⟨n1, h1⟩, ?_⟩
          have bt : Btw D q.1 q.2 g := by
            rw [c1]
            have := z.t.self g (z.hU g hg)
            unfold Btw
            omega
          rw [hit h1 n1 h2 bt, Int.min_eq_left (by omega), Int.max_eq_right (by omega)]
        · by_cases c2 : par q.2 = q.1
          · refine ⟨q.2, me.mpr ⟨c1, a⟩, ?_⟩
            rw [c2, Int.min_eq_right (by omega), Int.max_eq_left (by omega)]
          · have n1 : q.1 ≠ g := fun e => c2 (hit a c1 c (by
              rw [e]
              have := z.t.self g (z.hU g hg)
              unfold Btw
              omega))
            have bt := z.back hg a c (.inr ⟨par q.2, (hpar q.2 a c1).1, (hpar q.2 a c1).2, fun e => c2 e.symm⟩)
            refine ⟨q.1, me.mpr ⟨n1, h1⟩, ?_⟩
            rw [hit h1 n1 h2 bt, Int.min_eq_left (by omega), Int.max_eq_right (by omega)]
  have e := key.length_eq
  rw [List.length_map, List.length_erase_of_mem hg] at e
  have := List.length_pos_of_mem hg
  omega
/-- more numbers told than worlds that were -/
theorem Rp.on {D' : Int → Int → Int} (r : Rp D ks nb) (h : ∀ u ∈ ks, ∀ v ∈ ks, D' u v = D u v) : Rp D' ks nb := by
  have b : ∀ {x y w}, x ∈ ks → y ∈ ks → w ∈ ks → (Btw D' x y w ↔ Btw D x y w) := fun {x y w} hx hy hw => by
    unfold Btw
    rw [h x hx y hy, h y hy w hw, h x hx w hw]
  refine ⟨r.nd, fun u hu v => ?_, fun u hu v hv w hw => ?_⟩
  · rw [r.adj u hu v]
    exact ⟨fun ⟨x, y, k⟩ => ⟨x, y, fun w hw n1 n2 q => k w hw n1 n2 ((b hu hw x).mp q)⟩, fun ⟨x, y, k⟩ => ⟨x, y, fun w hw n1 n2 q => k w hw n1 n2 ((b hu hw x).mpr q)⟩⟩
  · obtain ⟨m, hm, m1, m2, m3⟩ := r.med u hu v hv w hw
    exact ⟨m, hm, (b hu hm hv).mpr m1, (b hu hm hw).mpr m2, (b hv hm hw).mpr m3⟩
theorem Tr3.wider (z : Tr3 D ever liv ks nb) : ∃ D', Tr3 D' (ever + 1) liv ks nb := by
  have h0 : Un ever 0 := ⟨Int.le_refl _, z.e0⟩
  refine ⟨Dk D ever 0, z.t.fork h0, fun u hu => ?_, z.rp.on fun u hu v hv => ?_, z.nk, z.nl, z.sub, z.red, by have := z.e0; omega⟩
  · obtain ⟨a, b⟩ := z.hU u hu
    exact ⟨a, by omega⟩
  · have a := (z.hU u hu).2
    have b := (z.hU v hv).2
    exact dk_old (by omega) (by omega)
theorem Tr3.widen (z : Tr3 D ever liv ks nb) : ∀ n : Nat, ∃ D', Tr3 D' (ever + n) liv ks nb
  | 0 => ⟨D, by rw [Int.natCast_zero, Int.add_zero]; exact z⟩
  | n + 1 => by
    obtain ⟨D1, z1⟩ := z.widen n
    obtain ⟨D2, z2⟩ := z1.wider
    refine ⟨D2, ?_⟩
    rw [show ever + ((n + 1 : Nat) : Int) = ever + n + 1 by omega]
    exact z2
end

/-! ### what hangs beneath a world, and what it costs at the least -/
def minL : List Int → Int
  | [] => 0
  | [a] => a
  | a :: b :: l => min a (minL (b :: l))
theorem minL_spec : ∀ {l : List Int}, l ≠ [] → minL l ∈ l ∧ ∀ y ∈ l, minL l ≤ y
  | [], h => absurd rfl h
  | [a], _ => ⟨List.mem_singleton.mpr rfl, fun y hy => by rw [List.mem_singleton.mp hy]; exact Int.le_refl _⟩
  | a :: b :: l, _ => by
    obtain ⟨h1, h2⟩ := minL_spec (l := b :: l) (by simp)
    show min a (minL (b :: l)) ∈ a :: b :: l ∧ ∀ y ∈ a :: b :: l, min a (minL (b :: l)) ≤ y
    constructor
    · by_cases c : a ≤ minL (b :: l)
      · rw [Int.min_eq_left c]
        exact List.mem_cons_self
      · rw [Int.min_eq_right (by omega)]
        exact List.mem_cons_of_mem _ h1
    · intro y hy
      rcases List.mem_cons.mp hy with rfl | h
      · omega
      · have := h2 y h
        omega
theorem minL_uniq {l : List Int} {m : Int} (h : m ∈ l) (k : ∀ y ∈ l, m ≤ y) : m = minL l := by
  have ne : l ≠ [] := fun e => by rw [e] at h; cases h
  obtain ⟨a, b⟩ := minL_spec ne
  have := k _ a
  have := b _ h
  omega
abbrev Wy := Int × Int × Int
def bestC (qs : List Wy) : Int := minL (qs.map fun q => q.2.1)
def bestM (qs : List Wy) : Int := ((qs.filter fun q => decide (q.2.1 = bestC qs)).map fun q => q.2.2).sum
/-- what stands under a number -/
def wlook (qs : List Wy) (n : Int) : Option (Int × Int) := (qs.find? fun q => decide (q.1 = n)).map (·.2)
/-- what comes of a number over a tie: how much more, and how many -/
def there (qs : List Wy) (n : Int) : Int × Int :=
  match wlook qs n with
  | none => (bestC qs + 1, bestM qs)
  | some (c, m) => if c = bestC qs then (bestC qs, m) else if c = bestC qs + 1 then (bestC qs + 1, bestM qs + m) else (bestC qs + 1, bestM qs)
def tiedOn (qs bs : List Wy) : List Wy := qs.map fun q => (q.1, q.2.1 + (there bs q.1).1, q.2.2 * (there bs q.1).2)
/-- a row of worlds side by side, each with what hangs beneath it -/
inductive Fo where
  | nil : Fo
  | cons (w : Int) (k r : Fo) : Fo
def Fo.tops : Fo → List Int
  | .nil => []
  | .cons w _ r => w :: r.tops
def Fo.labs : Fo → List Int
  | .nil => []
  | .cons w k r => w :: (k.labs ++ r.labs)
def Fo.snoc : Fo → Int → Fo → Fo
  | .nil, u, f => .cons u f .nil
  | .cons w k r, u, f => .cons w k (r.snoc u f)
theorem Fo.snoc_tops (u : Int) (f : Fo) : ∀ F : Fo, (F.snoc u f).tops = F.tops ++ [u]
  | .nil => rfl
  | .cons w k r => by
    show w :: (r.snoc u f).tops = _
    rw [Fo.snoc_tops u f r]
    rfl
/-- the cost beneath a world with the number that g gives it -/
def Fo.cost (g : Int → Int) : Int → Fo → Int
  | _, .nil => 0
  | p, .cons w k r => (if g w = g p then 0 else 1) + k.cost g w + r.cost g p
/-- beneath each world stand its neighbours but the one above it -/
def Fo.Deep (nb : Int → List Int) : Int → Fo → Prop
  | _, .nil => True
  | p, .cons w k r => (k.tops.Nodup ∧ ∀ x, x ∈ k.tops ↔ x ∈ nb w ∧ x ≠ p) ∧ k.Deep nb w ∧ r.Deep nb p
theorem Fo.snoc_deep {nb : Int → List Int} {p u : Int} {f : Fo} (h1 : f.tops.Nodup) (h2 : ∀ x, x ∈ f.tops ↔ x ∈ nb u ∧ x ≠ p) (h3 : f.Deep nb u) : ∀ {F : Fo}, F.Deep nb p → (F.snoc u f).Deep nb p
  | .nil, _ => ⟨⟨h1, h2⟩, h3, trivial⟩
  | .cons _ _ _, h => ⟨h.1, h.2.1, Fo.snoc_deep h1 h2 h3 h.2.2⟩
/-- what hangs beneath w, come to by bk -/
def Fo.Is (nb : Int → List Int) (w : Int) (bk : Option Int) (F : Fo) : Prop := (F.tops.Nodup ∧ ∀ x, x ∈ F.tops ↔ x ∈ nb w ∧ some x ≠ bk) ∧ F.Deep nb w
section
variable {told : Int → Option Int} {nums : List Int}
def vals (told : Int → Option Int) (nums : List Int) (w : Int) : List Int :=
  match told w with
  | some n => [n]
  | none => nums
def ini (told : Int → Option Int) (nums : List Int) (w : Int) : List Wy := (vals told nums w).map fun n => (n, 0, 1)
def Fo.go (told : Int → Option Int) (nums : List Int) : Fo → List Wy → List Wy
  | .nil, a => a
  | .cons w k r, a => r.go told nums (tiedOn a (k.go told nums (ini told nums w)))
theorem Fo.go_snoc (u : Int) (f : Fo) : ∀ (F : Fo) (a : List Wy), (F.snoc u f).go told nums a = tiedOn (F.go told nums a) (f.go told nums (ini told nums u))
  | .nil, _ => rfl
  | .cons _ _ r, _ => Fo.go_snoc u f r _
/-- the ways of a world with what hangs beneath it -/
def Fo.at_ (told : Int → Option Int) (nums : List Int) (k : Fo) (w : Int) : List Wy := k.go told nums (ini told nums w)
def Fo.low (told : Int → Option Int) (nums : List Int) : Fo → Int → Int
  | .nil, _ => 0
  | .cons w k r, n => (there (k.at_ told nums w) n).1 + r.low told nums n
def Fo.mny (told : Int → Option Int) (nums : List Int) : Fo → Int → Int
  | .nil, _ => 1
  | .cons w k r, n => (there (k.at_ told nums w) n).2 * r.mny told nums n
theorem Fo.go_eq : ∀ (F : Fo) (a : List Wy), F.go told nums a = a.map fun q => (q.1, q.2.1 + F.low told nums q.1, q.2.2 * F.mny told nums q.1)
  | .nil, a => by
    refine Eq.trans (List.map_id a).symm (List.map_congr_left fun q _ => ?_)
    show q = (q.1, q.2.1 + 0, q.2.2 * 1)
    rw [Int.add_zero, Int.mul_one]
  | .cons w k r, a => by
    show r.go told nums (tiedOn a (k.at_ told nums w)) = _
    rw [Fo.go_eq r]
    unfold tiedOn
    rw [List.map_map]
    refine List.map_congr_left fun q _ => ?_
    show (q.1, q.2.1 + (there (k.at_ told nums w) q.1).1 + r.low told nums q.1, q.2.2 * (there (k.at_ told nums w) q.1).2 * r.mny told nums q.1) = _
    rw [Int.add_assoc, Int.mul_assoc]
    rfl
theorem Fo.at_eq (k : Fo) (w : Int) : k.at_ told nums w = (vals told nums w).map fun n => (n, k.low told nums n, k.mny told nums n) := by
  unfold Fo.at_
  rw [Fo.go_eq]
  unfold ini
  rw [List.map_map]
  refine List.map_congr_left fun n _ => ?_
  show (n, 0 + k.low told nums n, 1 * k.mny told nums n) = _
  rw [Int.zero_add, Int.one_mul]
theorem vals_ne (hn : nums ≠ []) (w : Int) : vals told nums w ≠ [] := by
  unfold vals
  cases told w with
  | some n => simp
  | none => exact hn
def ne1 (a b : Int) : Int := if a = b then 0 else 1
theorem find_map {f m : Int → Int} {n : Int} : ∀ {vs : List Int}, n ∈ vs → wlook (vs.map fun a => (a, f a, m a)) n = some (f n, m n)
  | [], h => by cases h
  | a :: vs, h => by
    unfold wlook
    rw [List.map_cons, List.find?_cons]
    by_cases c : a = n
    · subst c
      rw [decide_eq_true rfl]
      rfl
    · rw [decide_eq_false c]
      exact find_map ((List.mem_cons.mp h).resolve_left (Ne.symm c))
theorem find_none {f m : Int → Int} {n : Int} {vs : List Int} (h : n ∉ vs) : wlook (vs.map fun a => (a, f a, m a)) n = none := by
  unfold wlook
  rw [List.find?_eq_none.mpr fun q hq => ?_]
  · rfl
  · obtain ⟨a, ha, rfl⟩ := List.mem_map.mp hq
    simp only [decide_eq_true_eq]
    intro e
    exact h (e ▸ ha)
theorem bestC_map {f m : Int → Int} {vs : List Int} : bestC (vs.map fun a => (a, f a, m a)) = minL (vs.map f) := by
  unfold bestC
  rw [List.map_map]
  rfl
theorem there_in {f m : Int → Int} {n : Int} {vs : List Int} (h : n ∈ vs) : (there (vs.map fun a => (a, f a, m a)) n).1 = if f n = minL (vs.map f) then minL (vs.map f) else minL (vs.map f) + 1 := by
  unfold there
  rw [find_map h, bestC_map]
  show (if f n = _ then _ else _ : Int × Int).1 = _
  split
  · rfl
  · split <;> rfl
theorem there_out {f m : Int → Int} {n : Int} {vs : List Int} (h : n ∉ vs) : (there (vs.map fun a => (a, f a, m a)) n).1 = minL (vs.map f) + 1 := by
  unfold there
  rw [find_none h, bestC_map]
theorem there_le {f m : Int → Int} {n : Int} {vs : List Int} : (∀ a ∈ vs, (there (vs.map fun a => (a, f a, m a)) n).1 ≤ ne1 a n + f a) := by
  intro a ha
  have ne : vs.map f ≠ [] := fun e => by
    rw [List.map_eq_nil_iff.mp e] at ha
    cases ha
  have s := (minL_spec ne).2 (f a) (List.mem_map.mpr ⟨a, ha, rfl⟩)
  unfold ne1
  by_cases c : n ∈ vs
  · rw [there_in c]
    by_cases e : a = n
    · rw [if_pos e]
      subst e
      split <;> omega
    · rw [if_neg e]
      split <;> omega
  · rw [there_out c, if_neg (fun e : a = n => c (e ▸ ha))]
    omega
theorem there_got {f m : Int → Int} {n : Int} {vs : List Int} (ne : vs ≠ []) : ∃ a ∈ vs, (there (vs.map fun a => (a, f a, m a)) n).1 = ne1 a n + f a := by
  have s := (minL_spec (l := vs.map f) (fun e => ne (List.map_eq_nil_iff.mp e))).1
  obtain ⟨b, hb, eb⟩ := List.mem_map.mp s
  unfold ne1
  by_cases c : n ∈ vs
  · rw [there_in c]
    by_cases e : f n = minL (vs.map f)
    · exact ⟨n, c, by rw [if_pos e, if_pos rfl]; omega⟩
    · refine ⟨b, hb, ?_⟩
      rw [if_neg e, if_neg fun e2 => e (by rw [← e2, eb])]
      omega
  · rw [there_out c]
    exact ⟨b, hb, by rw [if_neg (fun e2 : b = n => c (e2 ▸ hb))]; omega⟩
/-- the least cost of a world with what hangs beneath it -/
def Fo.bst (told : Int → Option Int) (nums : List Int) (k : Fo) (w : Int) : Int := minL ((vals told nums w).map (k.low told nums))
theorem Fo.bestC_at (k : Fo) (w : Int) : bestC (k.at_ told nums w) = k.bst told nums w := by
  rw [Fo.at_eq]
  exact bestC_map
theorem Fo.low_le (k r : Fo) (w n : Int) : ∀ a ∈ vals told nums w, (Fo.cons w k r).low told nums n ≤ ne1 a n + k.low told nums a + r.low told nums n := fun a ha => by
  show (there (k.at_ told nums w) n).1 + r.low told nums n ≤ _
  rw [Fo.at_eq]
  have := there_le (f := k.low told nums) (m := k.mny told nums) (n := n) a ha
  omega
theorem Fo.low_got (hn : nums ≠ []) (k r : Fo) (w n : Int) : ∃ a ∈ vals told nums w, (Fo.cons w k r).low told nums n = ne1 a n + k.low told nums a + r.low told nums n := by
  obtain ⟨a, ha, e⟩ := there_got (f := k.low told nums) (m := k.mny told nums) (n := n) (vals_ne (told := told) hn w)
  refine ⟨a, ha, ?_⟩
  show (there (k.at_ told nums w) n).1 + r.low told nums n = _
  rw [Fo.at_eq, e]
/-- told by sets: the least cost of each beneath, and one where the number isn't among its best -/
theorem Fo.low_cons (k r : Fo) (w n : Int) : (Fo.cons w k r).low told nums n = k.bst told nums w + (if n ∈ vals told nums w ∧ k.low told nums n = k.bst told nums w then 0 else 1) + r.low told nums n := by
  show (there (k.at_ told nums w) n).1 + r.low told nums n = _
  rw [Fo.at_eq]
  by_cases c : n ∈ vals told nums w
  · rw [there_in c]
    unfold Fo.bst
    by_cases e : k.low told nums n = minL ((vals told nums w).map (k.low told nums))
    · rw [if_pos e, if_pos ⟨c, e⟩]
      omega
    · rw [if_neg e, if_neg fun z => e z.2]
  · rw [there_out c, if_neg fun z => c z.1]
    rfl
theorem vals_sub (tn : ∀ w n, told w = some n → n ∈ nums) (w : Int) : ∀ a ∈ vals told nums w, a ∈ nums := by
  intro a ha
  unfold vals at ha
  cases e : told w with
  | some n =>
    rw [e] at ha
    rw [List.mem_singleton.mp ha]
    exact tn w n e
  | none =>
    rw [e] at ha
    exact ha
theorem Fo.low_out (tn : ∀ w n, told w = some n → n ∈ nums) {a b : Int} (h : a ∉ nums) : ∀ F : Fo, F.low told nums b ≤ F.low told nums a
  | .nil => Int.le_refl _
  | .cons w k r => by
    have ih := Fo.low_out tn (b := b) h r
    rw [Fo.low_cons, Fo.low_cons, if_neg (c := a ∈ vals told nums w ∧ _) fun z => h (vals_sub tn w a z.1)]
    split <;> omega
theorem Fo.low_in (tn : ∀ w n, told w = some n → n ∈ nums) (hn : nums ≠ []) {a : Int} (h : a ∉ nums) : ∀ F : Fo, F.tops ≠ [] → ∃ b ∈ nums, F.low told nums b + 1 ≤ F.low told nums a
  | .nil, z => absurd rfl z
  | .cons w k r, _ => by
    have ne : (vals told nums w).map (k.low told nums) ≠ [] := fun e => vals_ne (told := told) hn w (List.map_eq_nil_iff.mp e)
    obtain ⟨b, hb, e⟩ := List.mem_map.mp (minL_spec ne).1
    refine ⟨b, vals_sub tn w b hb, ?_⟩
    have := Fo.low_out (told := told) tn (b := b) h r
    rw [Fo.low_cons, Fo.low_cons, if_neg (c := a ∈ vals told nums w ∧ _) fun z => h (vals_sub tn w a z.1), if_pos ⟨hb, e⟩]
    omega
/-- worlds of no told number have something beneath them -/
def Fo.Red (told : Int → Option Int) : Fo → Prop
  | .nil => True
  | .cons w k r => (told w = none → k.tops ≠ []) ∧ k.Red told ∧ r.Red told
/-- no keeping costs less -/
theorem Fo.least (tn : ∀ w n, told w = some n → n ∈ nums) (hn : nums ≠ []) {g : Int → Int} : ∀ (F : Fo) (p : Int), F.Red told → (∀ x ∈ F.labs, ∀ n, told x = some n → g x = n) → F.low told nums (g p) ≤ F.cost g p
  | .nil, _, _, _ => Int.le_refl _
  | .cons w k r, p, red, h => by
    have i1 := Fo.least tn hn (g := g) k w red.2.1 fun x hx => h x (List.mem_cons_of_mem _ (List.mem_append_left _ hx))
    have i2 := Fo.least tn hn (g := g) r p red.2.2 fun x hx => h x (List.mem_cons_of_mem _ (List.mem_append_right _ hx))
    have e : (Fo.cons w k r).cost g p = ne1 (g w) (g p) + k.cost g w + r.cost g p := rfl
    rw [e]
    by_cases c : g w ∈ vals told nums w
    · have := Fo.low_le (told := told) (nums := nums) k r w (g p) _ c
      omega
    · have tw : told w = none := by
        cases et : told w with
        | none => rfl
        | some n =>
          refine absurd ?_ c
          unfold vals
          rw [et]
          exact List.mem_singleton.mpr (h w List.mem_cons_self n et)
      have ev : vals told nums w = nums := by
        unfold vals
        rw [tw]
      rw [ev] at c
      obtain ⟨b, hb, le⟩ := Fo.low_in tn hn c k (red.1 tw)
      have := Fo.low_le (told := told) (nums := nums) k r w (g p) b (by rw [ev]; exact hb)
      have n1 : ne1 b (g p) ≤ 1 := by unfold ne1; split <;> omega
      have n2 : 0 ≤ ne1 (g w) (g p) := by unfold ne1; split <;> omega
      omega
theorem Fo.cost_on {g h : Int → Int} : ∀ (F : Fo) (p : Int), (∀ x ∈ F.labs, g x = h x) → g p = h p → F.cost g p = F.cost h p
  | .nil, _, _, _ => rfl
  | .cons w k r, p, e, ep => by
    show (if g w = g p then 0 else 1) + k.cost g w + r.cost g p = (if h w = h p then 0 else 1) + k.cost h w + r.cost h p
    have ew := e w List.mem_cons_self
    rw [Fo.cost_on k w (fun x hx => e x (List.mem_cons_of_mem _ (List.mem_append_left _ hx))) ew, Fo.cost_on r p (fun x hx => e x (List.mem_cons_of_mem _ (List.mem_append_right _ hx))) ep, ew, ep]
/-- a keeping costs that -/
theorem Fo.got (tn : ∀ w n, told w = some n → n ∈ nums) (hn : nums ≠ []) : ∀ (F : Fo) (p n : Int), F.labs.Nodup → p ∉ F.labs → ∃ g : Int → Int, (∀ x ∈ F.labs, ∀ m, told x = some m → g x = m) ∧ (∀ x ∈ F.labs, g x ∈ nums) ∧ g p = n ∧ F.cost g p = F.low told nums n
  | .nil, p, n, _, _ => ⟨fun _ => n, fun x hx => (nomatch hx), fun x hx => (nomatch hx), rfl, rfl⟩
  | .cons w k r, p, n, nd, np => by
    have nd : (w :: (k.labs ++ r.labs)).Nodup := nd
    have np : p ∉ w :: (k.labs ++ r.labs) := np
    rw [List.nodup_cons, List.mem_append, List.nodup_append] at nd
    rw [List.mem_cons, List.mem_append] at np
    obtain ⟨nw, nk, nr, nkr⟩ := nd
    obtain ⟨a, ha, ea⟩ := Fo.low_got (told := told) hn k r w n
    obtain ⟨g1, g11, g12, g13, g14⟩ := Fo.got tn hn k w a nk fun z => nw (.inl z)
    obtain ⟨g2, g21, g22, g23, g24⟩ := Fo.got tn hn r p n nr fun z => np (.inr (.inr z))
    refine ⟨fun x => if x = w ∨ x ∈ k.labs then g1 x else g2 x, fun x hx m hm => ?_, fun x hx => ?_, ?_, ?_⟩
    · have hx : x ∈ w :: (k.labs ++ r.labs) := hx
      by_cases c : x = w ∨ x ∈ k.labs
      · simp only [if_pos c]
        rcases c with rfl | c
        · rw [g13]
          unfold vals at ha
          rw [hm] at ha
          exact List.mem_singleton.mp ha
        · exact g11 x c m hm
      · simp only [if_neg c]
        rw [List.mem_cons, List.mem_append] at hx
        exact g21 x (by rcases hx with h | h | h; exact absurd (.inl h) c; exact absurd (.inr h) c; exact h) m hm
    · have hx : x ∈ w :: (k.labs ++ r.labs) := hx
      by_cases c : x = w ∨ x ∈ k.labs
      · simp only [if_pos c]
        rcases c with rfl | c
        · rw [g13]
          exact vals_sub tn x a ha
        · exact g12 x c
      · simp only [if_neg c]
        rw [List.mem_cons, List.mem_append] at hx
        exact g22 x (by rcases hx with h | h | h; exact absurd (.inl h) c; exact absurd (.inr h) c; exact h)
    · have c : ¬ (p = w ∨ p ∈ k.labs) := fun z => np (z.elim .inl fun h => .inr (.inl h))
      simp only [if_neg c]
      exact g23
    · have cp : ¬ (p = w ∨ p ∈ k.labs) := fun z => np (z.elim .inl fun h => .inr (.inl h))
      have e1 : k.cost (fun x => if x = w ∨ x ∈ k.labs then g1 x else g2 x) w = k.cost g1 w := Fo.cost_on k w (fun x hx => by simp only [if_pos (Or.inr hx : x = w ∨ x ∈ k.labs)]) (by simp)
      have e2 : r.cost (fun x => if x = w ∨ x ∈ k.labs then g1 x else g2 x) p = r.cost g2 p := Fo.cost_on r p (fun x hx => by
        have c : ¬ (x = w ∨ x ∈ k.labs) := fun z => z.elim (fun e => nw (.inr (e ▸ hx))) fun h => nkr x h x hx rfl
        simp only [if_neg c]) (by simp only [if_neg cp])
      show (if (if w = w ∨ w ∈ k.labs then g1 w else g2 w) = (if p = w ∨ p ∈ k.labs then g1 p else g2 p) then 0 else 1) + _ + _ = _
      rw [e1, e2, if_pos (Or.inl rfl), if_neg cp, ea, g14, g24, g13, g23]
      rfl
end

/-! ### what hangs beneath a root is the whole tree -/
def cstI (f : Int → Int) (rs : List (Int × Int)) : Int := ((rs.filter fun q => !decide (f q.1 = f q.2)).length : Int)
def mkE (a b : Int) : Int × Int := (min a b, max a b)
theorem mkE_comm (a b : Int) : mkE a b = mkE b a := by
  unfold mkE
  rw [Int.min_comm, Int.max_comm]
def Fo.eds : Int → Fo → List (Int × Int)
  | _, .nil => []
  | p, .cons w k r => mkE p w :: (k.eds w ++ r.eds p)
theorem Fo.eds_len : ∀ (F : Fo) (p : Int), (F.eds p).length = F.labs.length
  | .nil, _ => rfl
  | .cons w k r, p => by
    show (mkE p w :: (k.eds w ++ r.eds p)).length = (w :: (k.labs ++ r.labs)).length
    rw [List.length_cons, List.length_cons, List.length_append, List.length_append, Fo.eds_len k, Fo.eds_len r]
theorem Fo.cost_eds (g : Int → Int) : ∀ (F : Fo) (p : Int), F.cost g p = cstI g (F.eds p)
  | .nil, _ => rfl
  | .cons w k r, p => by
    show (if g w = g p then 0 else 1) + k.cost g w + r.cost g p = cstI g (mkE p w :: (k.eds w ++ r.eds p))
    rw [Fo.cost_eds g k, Fo.cost_eds g r]
    unfold cstI
    rw [List.filter_cons, List.filter_append]
    have e : (g (mkE p w).1 = g (mkE p w).2) ↔ g w = g p := by
      unfold mkE
      by_cases c : p ≤ w
      · rw [Int.min_eq_left c, Int.max_eq_right c]
        exact eq_comm
      · rw [Int.min_eq_right (by omega), Int.max_eq_left (by omega)]
    by_cases c : g w = g p
    · rw [if_pos c, if_neg (by simp [e.mpr c]), List.length_append]
      omega
    · rw [if_neg c, if_pos (by rw [Bool.not_eq_true', decide_eq_false_iff_not]; exact fun h => c (e.mp h)), List.length_cons, List.length_append]
      omega
theorem Fo.tops_in : ∀ (F : Fo) (p u : Int), u ∈ F.tops → mkE p u ∈ F.eds p ∧ u ∈ F.labs
  | .nil, _, _, h => by cases h
  | .cons w k r, p, u, h => by
    show mkE p u ∈ mkE p w :: (k.eds w ++ r.eds p) ∧ u ∈ w :: (k.labs ++ r.labs)
    rcases List.mem_cons.mp h with e | h
    · rw [e]
      exact ⟨List.mem_cons_self, List.mem_cons_self⟩
    · obtain ⟨a, b⟩ := Fo.tops_in r p u h
      exact ⟨List.mem_cons_of_mem _ (List.mem_append_right _ a), List.mem_cons_of_mem _ (List.mem_append_right _ b)⟩
theorem Fo.closed {nb : Int → List Int} : ∀ (F : Fo) (p : Int), F.Deep nb p → ∀ x ∈ F.labs, ∀ y ∈ nb x, mkE x y ∈ F.eds p ∧ (y = p ∨ y ∈ F.labs)
  | .nil, _, _, x, h, _, _ => by cases h
  | .cons w k r, p, d, x, hx, y, hy => by
    show mkE x y ∈ mkE p w :: (k.eds w ++ r.eds p) ∧ (y = p ∨ y ∈ w :: (k.labs ++ r.labs))
    have hx : x ∈ w :: (k.labs ++ r.labs) := hx
    rw [List.mem_cons, List.mem_append] at hx
    rcases hx with rfl | h | h
    · by_cases c : y = p
      · rw [c, mkE_comm]
        exact ⟨List.mem_cons_self, .inl rfl⟩
      · obtain ⟨a, b⟩ := Fo.tops_in k x y ((d.1.2 y).mpr ⟨hy, c⟩)
        exact ⟨List.mem_cons_of_mem _ (List.mem_append_left _ a), .inr (List.mem_cons_of_mem _ (List.mem_append_left _ b))⟩
    · obtain ⟨a, b⟩ := Fo.closed k w d.2.1 x h y hy
      refine ⟨List.mem_cons_of_mem _ (List.mem_append_left _ a), .inr ?_⟩
      rcases b with rfl | b
      · exact List.mem_cons_self
      · exact List.mem_cons_of_mem _ (List.mem_append_left _ b)
    · obtain ⟨a, b⟩ := Fo.closed r p d.2.2 x h y hy
      exact ⟨List.mem_cons_of_mem _ (List.mem_append_right _ a), b.imp_right fun b => List.mem_cons_of_mem _ (List.mem_append_right _ b)⟩
theorem perm_of {α : Type} [DecidableEq α] : ∀ {l m : List α}, l.Nodup → (∀ x ∈ l, x ∈ m) → m.length ≤ l.length → l.Perm m
  | [], m, _, _, h => by
    cases m with
    | nil => exact .refl _
    | cons a m => simp at h
  | a :: l, m, n, h, le => by
    rw [List.nodup_cons] at n
    have ha := h a List.mem_cons_self
    have el := List.length_erase_of_mem ha
    have p := perm_of (l := l) (m := m.erase a) n.2 (fun x hx => (List.mem_erase_of_ne (fun z : x = a => n.1 (by rw [← z]; exact hx))).mpr (h x (List.mem_cons_of_mem _ hx))) (by rw [List.length_cons] at le; omega)
    exact (p.cons a).trans (List.perm_cons_erase ha).symm
section
variable {D : Int → Int → Int} {ever root : Int} {liv ks : List Int} {nb : Int → List Int} {told : Int → Option Int} {nums : List Int}
theorem Tr3.kids_apart (z : Tr3 D ever liv ks nb) (hr : root ∈ ks) {w u u2 x : Int} (hw : w ∈ ks) (hu : u ∈ nb w) (hu2 : u2 ∈ nb w) (n : u ≠ u2) (b : Btw D u w root) (b2 : Btw D u2 w root) (hx : x ∈ ks) (h : Btw D x u root) (h2 : Btw D x u2 root) : False := by
  have U := fun {u} (h : u ∈ ks) => z.hU u h
  have k1 := ((z.rp.adj w hw u).mp hu)
  have k2 := ((z.rp.adj w hw u2).mp hu2)
  have th := z.rp.through z.t z.hU hw hu hu2 n
  have ln := z.t.line (U hx) (U k1.1) (U hr) (U k2.1) h h2
  have s1 := z.t.sym u u2 (U k1.1) (U k2.1)
  have s2 := z.t.sym w u2 (U hw) (U k2.1)
  have s3 := z.t.sym w u (U hw) (U k1.1)
  have p1 := z.t.pos (U hw) (U k2.1) (Ne.symm k2.2.1)
  have p2 := z.t.pos (U hw) (U k1.1) (Ne.symm k1.2.1)
  unfold Btw at *
  rcases ln with l | l <;> omega
theorem Fo.under (z : Tr3 D ever liv ks nb) (hr : root ∈ ks) : ∀ (F : Fo) (w : Int) (bk : Option Int), w ∈ ks → F.Deep nb w → F.tops.Nodup → (∀ u ∈ F.tops, u ∈ nb w ∧ some u ≠ bk) → (w = root ∧ bk = none ∨ ∃ b, bk = some b ∧ b ∈ nb w ∧ Btw D w b root) →
    F.labs.Nodup ∧ ∀ x ∈ F.labs, x ∈ ks ∧ ∃ u ∈ F.tops, Btw D x u root ∧ Btw D u w root
  | .nil, _, _, _, _, _, _, _ => ⟨List.nodup_nil, fun x hx => by cases hx⟩
  | .cons u k r, w, bk, hw, d, nt, sub, bw => by
    have U := fun {u} (h : u ∈ ks) => z.hU u h
    obtain ⟨hu, nbk⟩ := sub u List.mem_cons_self
    obtain ⟨u1, u2, _⟩ := (z.rp.adj w hw u).mp hu
    have nt : (u :: r.tops).Nodup := nt
    rw [List.nodup_cons] at nt
    have hs := z.rp.sym z.t z.hU hw hu
    have bu : Btw D u w root := z.back hr hw hu (by
      rcases bw with ⟨e, _⟩ | ⟨b, e, b1, b2⟩
      · exact .inl e
      · exact .inr ⟨b, b1, b2, fun e2 => nbk (by rw [e, e2])⟩)
    obtain ⟨n1, i1⟩ := Fo.under z hr k u (some w) u1 d.2.1 d.1.1 (fun x hx => by
      obtain ⟨a, b⟩ := (d.1.2 x).mp hx
      exact ⟨a, fun e => b (by injection e)⟩) (.inr ⟨w, rfl, hs, bu⟩)
    obtain ⟨n2, i2⟩ := Fo.under z hr r w bk hw d.2.2 nt.2 (fun x hx => sub x (List.mem_cons_of_mem _ hx)) bw
    have far : ∀ x ∈ k.labs, x ∈ ks ∧ Btw D x u root ∧ x ≠ u := fun x hx => by
      obtain ⟨xk, v, hv, bx, bv⟩ := i1 x hx
      have hv1 := ((d.1.2 v).mp hv).1
      obtain ⟨v1, v2, _⟩ := (z.rp.adj u u1 v).mp hv1
      have t1 := z.t.tri (U xk) (U u1) (U v1)
      have t2 := z.t.tri (U xk) (U hr) (U u1)
      have p := z.t.pos (U v1) (U u1) v2
      have q := z.t.nn x v (U xk) (U v1)
      unfold Btw at *
      refine ⟨xk, by omega, fun e => ?_⟩
      rw [e] at bx q
      omega
    refine ⟨?_, fun x hx => ?_⟩
    · show (u :: (k.labs ++ r.labs)).Nodup
      rw [List.nodup_cons, List.mem_append, List.nodup_append]
      refine ⟨fun h => ?_, n1, n2, fun x hx y hy e => ?_⟩
      · rcases h with h | h
        · exact (far u h).2.2 rfl
        · obtain ⟨uk, v, hv, bx, bv⟩ := i2 u h
          have nuv : u ≠ v := fun e => nt.1 (e ▸ hv)
          refine z.kids_apart hr hw hu (sub v (List.mem_cons_of_mem _ hv)).1 nuv bu bv uk ?_ bx
          have := z.t.self u (U uk)
          unfold Btw
          omega
      · obtain ⟨yk, v, hv, bx, bv⟩ := i2 y hy
        have nuv : u ≠ v := fun e => nt.1 (e ▸ hv)
        subst e
        exact z.kids_apart hr hw hu (sub v (List.mem_cons_of_mem _ hv)).1 nuv bu bv yk (far x hx).2.1 bx
    · have hx : x ∈ u :: (k.labs ++ r.labs) := hx
      rw [List.mem_cons, List.mem_append] at hx
      rcases hx with rfl | h | h
      · refine ⟨u1, x, List.mem_cons_self, ?_, bu⟩
        have := z.t.self x (U u1)
        unfold Btw
        omega
      · exact ⟨(far x h).1, u, List.mem_cons_self, (far x h).2.1, bu⟩
      · obtain ⟨xk, v, hv, bx⟩ := i2 x h
        exact ⟨xk, v, List.mem_cons_of_mem _ hv, bx⟩
theorem Fo.Is.labs {F : Fo} (h : F.Is nb root none) (z : Tr3 D ever liv ks nb) (hr : root ∈ ks) : F.labs.Nodup ∧ root ∉ F.labs ∧ ∀ x ∈ F.labs, x ∈ ks := by
  obtain ⟨a, b⟩ := Fo.under z hr F root none hr h.2 h.1.1 (fun u hu => (h.1.2 u).mp hu) (.inl ⟨rfl, rfl⟩)
  refine ⟨a, fun hx => ?_, fun x hx => (b x hx).1⟩
  obtain ⟨_, u, hu, b1, b2⟩ := b root hx
  have U := fun {u} (h : u ∈ ks) => z.hU u h
  obtain ⟨u1, u2, _⟩ := (z.rp.adj root hr u).mp ((h.1.2 u).mp hu).1
  have p := z.t.pos (U hr) (U u1) (Ne.symm u2)
  have s := z.t.self root (U hr)
  have q := z.t.nn u root (U u1) (U hr)
  unfold Btw at b1
  omega
theorem Fo.Is.all {F : Fo} (h : F.Is nb root none) (z : Tr3 D ever liv ks nb) (hr : root ∈ ks) : ∀ x ∈ ks, x = root ∨ x ∈ F.labs := by
  have U := fun {u} (h : u ∈ ks) => z.hU u h
  have key : ∀ n : Nat, ∀ x ∈ ks, D x root ≤ n → x = root ∨ x ∈ F.labs := by
    intro n
    induction n with
    | zero =>
      intro x hx h0
      exact .inl (z.t.eq x root (U hx) (U hr) (by have := z.t.nn x root (U hx) (U hr); omega))
    | succ n ih =>
      intro x hx h0
      by_cases c : x = root
      · exact .inl c
      · obtain ⟨y, hy, bt⟩ := z.rp.toward z.t z.hU hx hr c
        obtain ⟨y1, y2, _⟩ := (z.rp.adj x hx y).mp hy
        have p := z.t.pos (U hx) (U y1) (Ne.symm y2)
        unfold Btw at bt
        have hs := z.rp.sym z.t z.hU hx hy
        rcases ih y y1 (by omega) with e | m
        · rw [e] at hs
          exact .inr (Fo.tops_in F root x ((h.1.2 x).mpr ⟨hs, fun e => by cases e⟩)).2
        · rcases (Fo.closed F root h.2 y m x hs).2 with e | m
          · exact .inl e
          · exact .inr m
  intro x hx
  have := z.t.nn x root (U hx) (U hr)
  exact key (D x root).toNat x hx (by omega)
theorem Fo.Is.rows {F : Fo} (h : F.Is nb root none) (z : Tr3 D ever liv ks nb) (hr : root ∈ ks) {rs : List (Int × Int)} (nd : rs.Nodup) (ro : ∀ q, q ∈ rs ↔ q.1 ∈ ks ∧ q.2 ∈ nb q.1 ∧ q.1 < q.2) : rs.Perm (F.eds root) := by
  obtain ⟨a, b, c⟩ := h.labs z hr
  have len := z.rows_count nd ro hr
  refine perm_of nd (fun q hq => ?_) ?_
  · obtain ⟨q1, q2, q3⟩ := (ro q).mp hq
    have e : q = mkE q.1 q.2 := by
      unfold mkE
      rw [Int.min_eq_left (by omega), Int.max_eq_right (by omega)]
    rw [e]
    rcases h.all z hr q.1 q1 with e | m
    · rw [e]
      exact (Fo.tops_in F root q.2 ((h.1.2 _).mpr ⟨by rw [← e]; exact q2, fun e => by cases e⟩)).1
    · exact (Fo.closed F root h.2 q.1 m q.2 q2).1
  · rw [Fo.eds_len]
    have := sub_len (l := root :: F.labs) (m := ks) (List.nodup_cons.mpr ⟨b, a⟩) fun x hx => by
      rcases List.mem_cons.mp hx with rfl | hx
      · exact hr
      · exact c x hx
    rw [List.length_cons] at this
    omega
theorem Fo.Is.cst {F : Fo} (h : F.Is nb root none) (z : Tr3 D ever liv ks nb) (hr : root ∈ ks) {rs : List (Int × Int)} (nd : rs.Nodup) (ro : ∀ q, q ∈ rs ↔ q.1 ∈ ks ∧ q.2 ∈ nb q.1 ∧ q.1 < q.2) (g : Int → Int) : cstI g rs = F.cost g root := by
  rw [Fo.cost_eds]
  unfold cstI
  rw [((h.rows z hr nd ro).filter _).length_eq]
theorem Fo.Deep.red {told : Int → Option Int} (z : Tr3 D ever liv ks nb) (ht : ∀ x ∈ liv, told x ≠ none) : ∀ (F : Fo) (p : Int), F.Deep nb p → (∀ x ∈ F.labs, x ∈ ks) → F.Red told
  | .nil, _, _, _ => trivial
  | .cons w k r, p, d, h => by
    refine ⟨fun tw e => ?_, Fo.Deep.red z ht k w d.2.1 fun x hx => h x (List.mem_cons_of_mem _ (List.mem_append_left _ hx)), Fo.Deep.red z ht r p d.2.2 fun x hx => h x (List.mem_cons_of_mem _ (List.mem_append_right _ hx))⟩
    have hw := h w List.mem_cons_self
    have n3 := z.red w hw fun m => ht w m tw
    have l1 := sub_len (l := nb w) (m := [p]) (z.rp.nd w hw) fun x hx => by
      refine List.mem_singleton.mpr (Classical.byContradiction fun n => ?_)
      have := (d.1.2 x).mpr ⟨hx, n⟩
      rw [e] at this
      cases this
    rw [List.length_singleton] at l1
    omega
def Ext (told : Int → Option Int) (ks : List Int) (g : Int → Int) : Prop := ∀ x ∈ ks, ∀ n, told x = some n → g x = n
/-- the numbers of the root: what costs at the least each of them -/
theorem Fo.Is.low_le {F : Fo} (h : F.Is nb root none) (z : Tr3 D ever liv ks nb) (hr : root ∈ ks) (ht : ∀ x ∈ liv, told x ≠ none) (tn : ∀ w n, told w = some n → n ∈ nums) (hn : nums ≠ []) {rs : List (Int × Int)} (nd : rs.Nodup) (ro : ∀ q, q ∈ rs ↔ q.1 ∈ ks ∧ q.2 ∈ nb q.1 ∧ q.1 < q.2) {g : Int → Int} (hg : Ext told ks g) :
    F.low told nums (g root) ≤ cstI g rs := by
  obtain ⟨a, b, c⟩ := h.labs z hr
  rw [h.cst z hr nd ro]
  exact Fo.least tn hn F root (Fo.Deep.red z ht F root h.2 c) fun x hx => hg x (c x hx)
theorem Fo.Is.low_got {F : Fo} (h : F.Is nb root none) (z : Tr3 D ever liv ks nb) (hr : root ∈ ks) (tn : ∀ w n, told w = some n → n ∈ nums) (hn : nums ≠ []) {rs : List (Int × Int)} (nd : rs.Nodup) (ro : ∀ q, q ∈ rs ↔ q.1 ∈ ks ∧ q.2 ∈ nb q.1 ∧ q.1 < q.2) {n : Int} (hv : n ∈ vals told nums root) :
    ∃ g, Ext told ks g ∧ (∀ x ∈ ks, g x ∈ nums) ∧ g root = n ∧ cstI g rs = F.low told nums n := by
  obtain ⟨a, b, c⟩ := h.labs z hr
  obtain ⟨g, g1, g2, g3, g4⟩ := Fo.got (told := told) tn hn F root n a b
  refine ⟨g, fun x hx m hm => ?_, fun x hx => ?_, g3, by rw [h.cst z hr nd ro, g4]⟩
  · rcases h.all z hr x hx with rfl | hx
    · rw [g3]
      unfold vals at hv
      rw [hm] at hv
      exact List.mem_singleton.mp hv
    · exact g1 x hx m hm
  · rcases h.all z hr x hx with rfl | hx
    · rw [g3]
      exact vals_sub tn x n hv
    · exact g2 x hx
/-- the least cost of all keepings that have what is told -/
structure Lst (told : Int → Option Int) (nums ks : List Int) (rs : List (Int × Int)) (m : Int) : Prop where
  le : ∀ g, Ext told ks g → m ≤ cstI g rs
  got : ∃ g, Ext told ks g ∧ (∀ x ∈ ks, g x ∈ nums) ∧ cstI g rs = m
theorem Lst.uniq {rs : List (Int × Int)} {m m' : Int} (h : Lst told nums ks rs m) (h' : Lst told nums ks rs m') : m = m' := by
  obtain ⟨g, g1, _, g3⟩ := h.got
  obtain ⟨g', g1', _, g3'⟩ := h'.got
  have := h.le g' g1'
  have := h'.le g g1
  omega
theorem Fo.Is.bst {F : Fo} (h : F.Is nb root none) (z : Tr3 D ever liv ks nb) (hr : root ∈ ks) (ht : ∀ x ∈ liv, told x ≠ none) (tn : ∀ w n, told w = some n → n ∈ nums) (hn : nums ≠ []) {rs : List (Int × Int)} (nd : rs.Nodup) (ro : ∀ q, q ∈ rs ↔ q.1 ∈ ks ∧ q.2 ∈ nb q.1 ∧ q.1 < q.2) :
    Lst told nums ks rs (F.bst told nums root) := by
  have ne : (vals told nums root).map (F.low told nums) ≠ [] := fun e => vals_ne (told := told) hn root (List.map_eq_nil_iff.mp e)
  obtain ⟨s1, s2⟩ := minL_spec ne
  refine ⟨fun g hg => ?_, ?_⟩
  · have le := h.low_le z hr ht tn hn nd ro hg
    have key : ∃ a ∈ vals told nums root, F.low told nums a ≤ F.low told nums (g root) := by
      by_cases c : g root ∈ vals told nums root
      · exact ⟨_, c, Int.le_refl _⟩
      · have tw : told root = none := by
          cases et : told root with
          | none => rfl
          | some n =>
            refine absurd ?_ c
            unfold vals
            rw [et]
            exact List.mem_singleton.mpr (hg root hr n et)
        have ev : vals told nums root = nums := by
          unfold vals
          rw [tw]
        rw [ev] at c ⊢
        obtain ⟨b, hb, le⟩ := Fo.low_in tn hn c F (fun e => by
          have n3 := z.red root hr fun m => ht root m tw
          have l1 := sub_len (l := nb root) (m := []) (z.rp.nd root hr) fun x hx => by
            have := (h.1.2 x).mpr ⟨hx, fun e => by cases e⟩
            rw [e] at this
            exact this
          rw [List.length_nil] at l1
          omega)
        exact ⟨b, hb, by omega⟩
    obtain ⟨a, ha, la⟩ := key
    have := s2 _ (List.mem_map.mpr ⟨a, ha, rfl⟩)
    unfold Fo.bst
    omega
  · obtain ⟨n, hv, e⟩ := List.mem_map.mp s1
    obtain ⟨g, g1, g2, _, g4⟩ := h.low_got z hr tn hn nd ro hv
    exact ⟨g, g1, g2, by rw [g4, e]; rfl⟩
/-- with one number told more -/
def tell1 (told : Int → Option Int) (w n : Int) : Int → Option Int := fun x => if x = w then some n else told x
theorem Fo.Is.lown {F : Fo} (h : F.Is nb root none) (z : Tr3 D ever liv ks nb) (hr : root ∈ ks) (ht : ∀ x ∈ liv, told x ≠ none) (tn : ∀ w n, told w = some n → n ∈ nums) (hn : nums ≠ []) {rs : List (Int × Int)} (nd : rs.Nodup) (ro : ∀ q, q ∈ rs ↔ q.1 ∈ ks ∧ q.2 ∈ nb q.1 ∧ q.1 < q.2) {n : Int} (tr : told root = none) (hv : n ∈ nums) :
    Lst (tell1 told root n) nums ks rs (F.low told nums n) := by
  have ev : vals told nums root = nums := by
    unfold vals
    rw [tr]
  have ex : ∀ {g}, Ext (tell1 told root n) ks g ↔ Ext told ks g ∧ g root = n := fun {g} => by
    constructor
    · intro hg
      refine ⟨fun x hx m hm => hg x hx m ?_, hg root hr n (by unfold tell1; rw [if_pos rfl])⟩
      unfold tell1
      rw [if_neg fun e => by rw [e, tr] at hm; cases hm]
      exact hm
    · rintro ⟨hg, e⟩ x hx m hm
      unfold tell1 at hm
      by_cases c : x = root
      · rw [if_pos c] at hm
        injection hm with hm
        rw [c, e, hm]
      · rw [if_neg c] at hm
        exact hg x hx m hm
  refine ⟨fun g hg => ?_, ?_⟩
  · obtain ⟨h1, h2⟩ := ex.mp hg
    have := h.low_le z hr ht tn hn nd ro h1
    rw [h2] at this
    exact this
  · obtain ⟨g, g1, g2, g3, g4⟩ := h.low_got (told := told) z hr tn hn nd ro (n := n) (by rw [ev]; exact hv)
    exact ⟨g, ex.mpr ⟨g1, g3⟩, g2, g4⟩
end
section
variable {D : Int → Int → Int} {ever root : Int} {liv ks : List Int} {nb : Int → List Int}
theorem Fo.len_le (z : Tr3 D ever liv ks nb) (hrt : root ∈ ks) {F : Fo} {w : Int} {bk : Option Int} (hw : w ∈ ks) (d : F.Deep nb w) (nt : F.tops.Nodup) (sub : ∀ u ∈ F.tops, u ∈ nb w ∧ some u ≠ bk) (bw : w = root ∧ bk = none ∨ ∃ b, bk = some b ∧ b ∈ nb w ∧ Btw D w b root) : F.labs.length ≤ ks.length := by
  obtain ⟨a, b⟩ := Fo.under z hrt F w bk hw d nt sub bw
  exact sub_len a fun x hx => (b x hx).1
theorem Fo.go_keys {told : Int → Option Int} {nums : List Int} : ∀ (F : Fo) (a : List Wy), (F.go told nums a).map (·.1) = a.map (·.1)
  | .nil, _ => rfl
  | .cons w k r, a => by
    show (r.go told nums (tiedOn a (k.go told nums (ini told nums w)))).map (·.1) = _
    rw [Fo.go_keys r]
    unfold tiedOn
    rw [List.map_map]
    rfl
theorem ini_keys {told : Int → Option Int} {nums : List Int} (w : Int) : (ini told nums w).map (·.1) = vals told nums w := by
  unfold ini
  rw [List.map_map]
  exact List.map_id _
theorem vals_nd {told : Int → Option Int} {nums : List Int} (h : nums.Nodup) (w : Int) : (vals told nums w).Nodup := by
  unfold vals
  cases told w with
  | none => exact h
  | some n => simp
end

/-! ### how many there can be at the most -/
def Bnd (e : Nat) (qs : List Wy) : Prop := ∀ q ∈ qs, 0 ≤ q.2.2 ∧ q.2.2 ≤ ((2 ^ (7 * e) : Nat) : Int)
theorem Bnd.mono {e e' : Nat} {qs : List Wy} (h : Bnd e qs) (le : e ≤ e') : Bnd e' qs := fun q hq => by
  obtain ⟨a, b⟩ := h q hq
  have := Nat.pow_le_pow_right (n := 2) (by decide) (show 7 * e ≤ 7 * e' by omega)
  exact ⟨a, by omega⟩
theorem sum_bnd {b : Int} (hb : 0 ≤ b) : ∀ {l : List Int}, (∀ x ∈ l, 0 ≤ x ∧ x ≤ b) → 0 ≤ l.sum ∧ l.sum ≤ l.length * b
  | [], _ => ⟨Int.le_refl _, by simp⟩
  | a :: l, h => by
    obtain ⟨h1, h2⟩ := sum_bnd hb fun x hx => h x (List.mem_cons_of_mem _ hx)
    obtain ⟨h3, h4⟩ := h a List.mem_cons_self
    rw [List.sum_cons, List.length_cons]
    have e : ((l.length + 1 : Nat) : Int) * b = (l.length : Int) * b + b := by
      rw [Int.natCast_add, Int.add_mul]
      simp
    rw [e]
    omega
theorem bestM_bnd {e : Nat} {qs : List Wy} (h : Bnd e qs) (l : qs.length ≤ 64) : 0 ≤ bestM qs ∧ bestM qs ≤ 64 * ((2 ^ (7 * e) : Nat) : Int) := by
  have hb : (0 : Int) ≤ ((2 ^ (7 * e) : Nat) : Int) := Int.natCast_nonneg _
  obtain ⟨a, b⟩ := sum_bnd hb (l := (qs.filter fun q => decide (q.2.1 = bestC qs)).map fun q => q.2.2) fun x hx => by
    obtain ⟨q, hq, rfl⟩ := List.mem_map.mp hx
    exact h q (List.mem_filter.mp hq).1
  refine ⟨a, Int.le_trans b ?_⟩
  rw [List.length_map]
  have := List.length_filter_le (fun q : Wy => decide (q.2.1 = bestC qs)) qs
  exact Int.mul_le_mul_of_nonneg_right (by omega) hb
theorem there_bnd {e : Nat} {qs : List Wy} (h : Bnd e qs) (l : qs.length ≤ 64) (n : Int) : 0 ≤ (there qs n).2 ∧ (there qs n).2 ≤ 65 * ((2 ^ (7 * e) : Nat) : Int) := by
  obtain ⟨a, b⟩ := bestM_bnd h l
  have hb : (0 : Int) ≤ ((2 ^ (7 * e) : Nat) : Int) := Int.natCast_nonneg _
  unfold there
  cases hw : wlook qs n with
  | none => exact ⟨a, by dsimp only; omega⟩
  | some cm =>
    obtain ⟨c, m⟩ := cm
    have hm : 0 ≤ m ∧ m ≤ ((2 ^ (7 * e) : Nat) : Int) := by
      unfold wlook at hw
      cases hf : qs.find? fun q => decide (q.1 = n) with
      | none => rw [hf] at hw; cases hw
      | some q =>
        rw [hf] at hw
        have e2 : q.2 = (c, m) := by injection hw
        have := h q (List.mem_of_find?_eq_some hf)
        rw [e2] at this
        exact this
    dsimp only
    split
    · exact ⟨hm.1, by dsimp only; omega⟩
    · split
      · exact ⟨by dsimp only; omega, by dsimp only; omega⟩
      · exact ⟨a, by dsimp only; omega⟩
theorem tied_bnd {e e' : Nat} {qs bs : List Wy} (h : Bnd e qs) (h' : Bnd e' bs) (l : bs.length ≤ 64) : Bnd (e + e' + 1) (tiedOn qs bs) := fun q hq => by
  obtain ⟨r, hr, rfl⟩ := List.mem_map.mp hq
  obtain ⟨a, b⟩ := h r hr
  obtain ⟨c, d⟩ := there_bnd h' l r.1
  refine ⟨Int.mul_nonneg a c, Int.le_trans (Int.mul_le_mul b d c (Int.natCast_nonneg _)) ?_⟩
  have e1 : (2 ^ (7 * (e + e' + 1)) : Nat) = 2 ^ (7 * e) * (128 * 2 ^ (7 * e')) := by
    rw [show 7 * (e + e' + 1) = 7 * e + (7 + 7 * e') by omega, Nat.pow_add, Nat.pow_add]
  rw [e1, Int.natCast_mul]
  refine Int.mul_le_mul_of_nonneg_left ?_ (Int.natCast_nonneg _)
  have : (0 : Int) ≤ ((2 ^ (7 * e') : Nat) : Int) := Int.natCast_nonneg _
  omega
theorem ini_bnd {told : Int → Option Int} {nums : List Int} (w : Int) : Bnd 0 (ini told nums w) := fun q hq => by
  obtain ⟨n, _, rfl⟩ := List.mem_map.mp hq
  exact ⟨by dsimp only; omega, by dsimp only; decide⟩
theorem ini_len {told : Int → Option Int} {nums : List Int} (hn : nums.length ≤ 64) (w : Int) : (ini told nums w).length ≤ 64 := by
  unfold ini vals
  rw [List.length_map]
  cases told w with
  | none => exact hn
  | some n => simp
theorem Fo.go_len {told : Int → Option Int} {nums : List Int} : ∀ (F : Fo) (a : List Wy), (F.go told nums a).length = a.length
  | .nil, _ => rfl
  | .cons w k r, a => by
    show (r.go told nums (tiedOn a (k.go told nums (ini told nums w)))).length = _
    rw [Fo.go_len r]
    unfold tiedOn
    rw [List.length_map]
theorem Fo.go_bnd {told : Int → Option Int} {nums : List Int} (hn : nums.length ≤ 64) : ∀ (F : Fo) (e : Nat) (a : List Wy), Bnd e a → Bnd (e + F.labs.length) (F.go told nums a)
  | .nil, _, _, h => h
  | .cons w k r, e, a, h => by
    have i1 := Fo.go_bnd (told := told) hn k 0 (ini told nums w) (ini_bnd w)
    have i2 := tied_bnd h i1 (by rw [Fo.go_len]; exact ini_len hn w)
    have i3 := Fo.go_bnd (told := told) hn r _ _ i2
    refine i3.mono ?_
    show _ ≤ e + (w :: (k.labs ++ r.labs)).length
    rw [List.length_cons, List.length_append]
    omega
theorem Fo.at_bnd {told : Int → Option Int} {nums : List Int} (hn : nums.length ≤ 64) (F : Fo) (w : Int) : Bnd F.labs.length (F.at_ told nums w) := by
  have := Fo.go_bnd (told := told) hn F 0 (ini told nums w) (ini_bnd w)
  rw [Nat.zero_add] at this
  exact this
theorem bnd_log {e : Nat} {x : Int} (h0 : 0 ≤ x) (h : x ≤ 65 * ((2 ^ (7 * e) : Nat) : Int)) : x.natAbs.log2 ≤ 7 * e + 7 := by
  by_cases c : x.natAbs = 0
  · rw [c]
    exact Nat.zero_le _
  · have : x.natAbs < 2 ^ (7 * e + 7) := by
      rw [Nat.pow_add]
      omega
    have := (Nat.log2_lt c).mpr this
    omega

/-! ### pots and draws -/
def sp_law_pot (K : PySem.W.Frag) : Sp := fun vs H Q _ => ∃ (a : Addr) (ns : List Int) (i : Nat),
  vs = [.ref a, .int i] ∧ SqL K H a (ns.map V.int) ∧ i ≤ 100 ∧
  ∀ p H', Fr H p → Kp [] H H' → PotAt H' p → Q (.ref p) H'
theorem sc_law_pot : FnScope ["_law_script", "_law_k", "_law_cell"] ["_law_script", "_law_k"] (defScope s_law_pot) :=
  ⟨rfl, rfl, rfl, by decide +kernel, rfl, by decide +kernel, by decide +kernel⟩
theorem ok_law_pot {P : Program} {w : World} {K : PySem.W.Frag} {mg : Str → Option Value} {base : Heap} (T : Txt K mg) :
    FnG P w K mg base 1 T.a_law_pot T.d_law_pot ["_law_script", "_law_k"] (sp_law_pot K) := by
  refine okD T.F_law_pot sc_law_pot (fun vs H Q E h => ?_) (fun cdv A outer s H vs Q E hr h => ?_)
  · first
      | (obtain ⟨_, rfl, _⟩ := h; rfl)
      | (obtain ⟨_, _, rfl, _⟩ := h; rfl)
      | (obtain ⟨_, _, _, rfl, _⟩ := h; rfl)
      | (obtain ⟨_, _, _, _, rfl, _⟩ := h; rfl)
      | (obtain ⟨_, _, _, _, _, rfl, _⟩ := h; rfl)
      | (obtain ⟨_, _, _, _, _, _, rfl, _⟩ := h; rfl)
      | (obtain ⟨_, _, _, _, _, _, _, rfl, _⟩ := h; rfl)
      | (obtain ⟨_, _, _, _, _, _, _, _, rfl, _⟩ := h; rfl)
      | (obtain ⟨_, _, _, _, _, _, _, _, _, rfl, _⟩ := h; rfl)
      | (obtain ⟨_, _, _, _, _, _, _, _, _, _, rfl, _⟩ := h; rfl)
      | (obtain ⟨_, _, _, _, _, _, _, _, _, _, _, rfl, _⟩ := h; rfl)
      | (obtain ⟨_, _, _, _, _, _, _, _, _, _, _, _, rfl, _⟩ := h; rfl)
      | (obtain ⟨_, _, _, _, _, _, _, _, _, _, _, _, _, rfl, _⟩ := h; rfl)
      | (obtain ⟨_, _, _, _, _, _, _, _, _, _, _, _, _, _, rfl, _⟩ := h; rfl)
      | (obtain ⟨_, _, _, _, _, _, _, _, _, _, _, _, _, _, _, rfl, _⟩ := h; rfl)
      | (obtain ⟨_, _, _, _, _, _, _, _, _, _, _, _, _, _, _, _, rfl, _⟩ := h; rfl)
      | (obtain ⟨_, _, _, _, _, _, _, _, _, _, _, _, _, _, _, _, _, rfl, _⟩ := h; rfl)
      | (obtain ⟨_, _, _, _, _, _, _, _, _, _, _, _, _, _, _, _, _, _, rfl, _⟩ := h; rfl)
      | (obtain ⟨_, _, _, _, _, _, _, _, _, _, _, _, _, _, _, _, _, _, _, rfl, _⟩ := h; rfl)
  · obtain ⟨a, ns, i, rfl, hsq, hi, k⟩ := h
    refine ⟨_, (pss_cons (ps_set (i := 2) sc_law_pot.nd rfl (Or.inl rfl) (pe_ifExp (pt_cmpR op_lt (pv 1) (pe_callB (k_len (K := K) rfl) (by rfl) T.n_len (by decide +kernel) (pa_cons (pv 0) pa_nil)) (nomark _)) (pe_callB c_abs (by rfl) T.n_abs (by decide +kernel) (pa_cons (pe_ix (k_ix (K := K) rfl) (pv 0) (pv 1) (fun _ _ => rfl)) pa_nil)) pe_int))
      (pss_one (ps_ret (pe_lst (pa_cons (pe_callB (c_max2 rfl) (by rfl) T.n_max (by decide +kernel) (pa_cons pe_int (pa_cons (pe_op op_sub (pv 2) (pe_op o_pow pe_int pe_int)) pa_nil))) (pa_cons (pe_op o_mod (pe_op (k_add (K := K) rfl) (pe_op (k_add (K := K) rfl) (pe_op o_mul (pe_op o_mod (pv 2) pe_int) pe_int) (pe_op o_mul pe_int (pv 1))) pe_int) pe_int) pa_nil)))))), ?_⟩
    dsimp only [cxOf, st_1, st_2, st_3, st_4, st_5, st_6, List.length_cons, List.length_nil, List.replicate_succ, List.replicate_zero, Nat.reduceAdd, Nat.reduceSub]
    walk_at "gs"
    refine i_dec (fun h0 => ?_) (fun h0 => ?_)
    · rw [List.length_map] at h0
      have hx : (ns.map V.int)[i]? = some (V.int (ns[i]'(by omega))) := by simp
      have hat := atI_nat hx
      walk_at "gs"
      refine i_new fun p hp => ?_
      refine k p _ hp (Kp.new hp) ⟨_, _, upd_same, ?_, ?_, ?_⟩ <;> omega
    · walk_at "gs"
      refine i_new fun p hp => ?_
      refine k p _ hp (Kp.new hp) ⟨_, _, upd_same, ?_, ?_, ?_⟩ <;> omega
def sp_take : Sp := fun vs H Q _ => ∃ (p : Addr) (n : Int), vs = [.ref p, .int n] ∧ PotAt H p ∧ 0 < n ∧
  n ≤ 10000000000000000000000000000000000000000000000000000000000000000000000 ∧
  ∀ r H', 0 ≤ r → r < n → PotAt H' p → Kp [p] H H' → Q (.int r) H'
theorem sc_law_take : FnScope ["_law_pot_here", "_law_many", "_law_digit"] ["_law_pot_here", "_law_many"] (defScope s_law_take) :=
  ⟨rfl, rfl, rfl, by decide +kernel, rfl, by decide +kernel, by decide +kernel⟩
theorem ok_law_take {P : Program} {w : World} {K : PySem.W.Frag} {mg : Str → Option Value} {base : Heap} (T : Txt K mg) :
    FnG P w K mg base 1 T.a_law_take T.d_law_take ["_law_pot_here", "_law_many"] sp_take := by
  refine okD T.F_law_take sc_law_take (fun vs H Q E h => ?_) (fun cdv A outer s H vs Q E hr h => ?_)
  · first
      | (obtain ⟨_, rfl, _⟩ := h; rfl)
      | (obtain ⟨_, _, rfl, _⟩ := h; rfl)
      | (obtain ⟨_, _, _, rfl, _⟩ := h; rfl)
      | (obtain ⟨_, _, _, _, rfl, _⟩ := h; rfl)
      | (obtain ⟨_, _, _, _, _, rfl, _⟩ := h; rfl)
      | (obtain ⟨_, _, _, _, _, _, rfl, _⟩ := h; rfl)
      | (obtain ⟨_, _, _, _, _, _, _, rfl, _⟩ := h; rfl)
      | (obtain ⟨_, _, _, _, _, _, _, _, rfl, _⟩ := h; rfl)
      | (obtain ⟨_, _, _, _, _, _, _, _, _, rfl, _⟩ := h; rfl)
      | (obtain ⟨_, _, _, _, _, _, _, _, _, _, rfl, _⟩ := h; rfl)
      | (obtain ⟨_, _, _, _, _, _, _, _, _, _, _, rfl, _⟩ := h; rfl)
      | (obtain ⟨_, _, _, _, _, _, _, _, _, _, _, _, rfl, _⟩ := h; rfl)
      | (obtain ⟨_, _, _, _, _, _, _, _, _, _, _, _, _, rfl, _⟩ := h; rfl)
      | (obtain ⟨_, _, _, _, _, _, _, _, _, _, _, _, _, _, rfl, _⟩ := h; rfl)
      | (obtain ⟨_, _, _, _, _, _, _, _, _, _, _, _, _, _, _, rfl, _⟩ := h; rfl)
      | (obtain ⟨_, _, _, _, _, _, _, _, _, _, _, _, _, _, _, _, rfl, _⟩ := h; rfl)
      | (obtain ⟨_, _, _, _, _, _, _, _, _, _, _, _, _, _, _, _, _, rfl, _⟩ := h; rfl)
      | (obtain ⟨_, _, _, _, _, _, _, _, _, _, _, _, _, _, _, _, _, _, rfl, _⟩ := h; rfl)
      | (obtain ⟨_, _, _, _, _, _, _, _, _, _, _, _, _, _, _, _, _, _, _, rfl, _⟩ := h; rfl)
  · obtain ⟨p, n, rfl, ⟨x, y, hp, hx, hy, hy2⟩, h0, h1, k⟩ := h
    refine ⟨_, (pss_cons (ps_if (pt_cmpR op_gt (pe_ix (k_ix (K := K) rfl) (pv 0) pe_int (fun _ _ => rfl)) pe_int (nomark _)) (pss_cons (ps_asg (pe_callB c_dm (by rfl) T.n_divmod (by decide +kernel) (pa_cons (pe_ix (k_ix (K := K) rfl) (pv 0) pe_int (fun _ _ => rfl)) (pa_cons (pv 1) pa_nil))) (k_gtup (K := K) 2 rfl rfl (pgs_cons (pg_sub (pv 0) pe_int set_list) (pgs_cons (pg_name (i := 2) sc_law_take.nd rfl (Or.inl rfl)) pgs_nil))))
      (pss_one (ps_ret (pv 2)))) pss_nil)
      (pss_cons (ps_asg (pe_op o_mod (pe_op (k_add (K := K) rfl) (pe_op o_mul (pe_ix (k_ix (K := K) rfl) (pv 0) pe_int (fun _ _ => rfl)) pe_int) pe_int) pe_int) (pg_sub (pv 0) pe_int set_list))
      (pss_one (ps_ret (pe_op o_mod (pe_op o_div (pe_op o_mod (pe_op o_mul (pe_ix (k_ix (K := K) rfl) (pv 0) pe_int (fun _ _ => rfl)) (pe_ix (k_ix (K := K) rfl) (pv 0) pe_int (fun _ _ => rfl))) pe_int) pe_int) (pv 1)))))), ?_⟩
    dsimp only [cxOf, st_1, st_2, st_3, st_4, st_5, st_6, List.length_cons, List.length_nil, List.replicate_succ, List.replicate_zero, Nat.reduceAdd, Nat.reduceSub]
    walk_at "gs"
    refine i_dec (fun hx0 => ?_) (fun hx0 => ?_)
    · walk_at "gs"
      refine i_new fun q hq => ?_
      walk_at "gs"
      refine k _ _ (Int.emod_nonneg _ (by omega)) (Int.emod_lt_of_pos _ h0) ⟨_, _, upd_same, ?_, hy, hy2⟩ ?_
      · exact Int.ediv_nonneg hx (by omega)
      · walk_at "g_kp"
    · walk_at "gs"
      refine k _ _ (Int.emod_nonneg _ (by omega)) (Int.emod_lt_of_pos _ h0) ⟨_, _, upd_same, hx, ?_, ?_⟩ ?_
      · omega
      · omega
      · walk_at "g_kp"
theorem use_take {H : Hp} {Q : VK} {E : XK} {p : Addr} {n : Int} (hp : PotAt H p) (h0 : 0 < n)
    (h1 : n ≤ 10000000000000000000000000000000000000000000000000000000000000000000000)
    (k : ∀ r H', 0 ≤ r → r < n → PotAt H' p → Kp [p] H H' → Q (.int r) H') :
    sp_take [.ref p, .int n] H Q E := ⟨p, n, rfl, hp, h0, h1, k⟩

/-! ### joined -/
def jst (f : List (Int × Int)) (p : Int × Int) : List (Int × Int) :=
  if 0 < p.1 then
    match f.getLast? with
    | some q => if q.2 = p.2 then f.dropLast ++ [(q.1 + p.1, p.2)] else f ++ [p]
    | none => [p]
  else f
theorem jst_same {f0 : List (Int × Int)} {q0 p : Int × Int} (h0 : 0 < p.1) (h1 : q0.2 = p.2) :
    jst (f0 ++ [q0]) p = f0 ++ [(q0.1 + p.1, p.2)] := by
  unfold jst
  rw [if_pos h0]
  simp [h1]
theorem jst_other {f0 : List (Int × Int)} {q0 p : Int × Int} (h0 : 0 < p.1) (h1 : ¬ q0.2 = p.2) :
    jst (f0 ++ [q0]) p = f0 ++ [q0] ++ [p] := by
  unfold jst
  rw [if_pos h0]
  simp [h1]
theorem jst_nil {p : Int × Int} (h0 : 0 < p.1) : jst [] p = [p] := by
  unfold jst
  rw [if_pos h0]
  rfl
theorem jst_no {f : List (Int × Int)} {p : Int × Int} (h0 : ¬ 0 < p.1) : jst f p = f := by
  unfold jst
  rw [if_neg h0]
def jnd (ps : List (Int × Int)) : List (Int × Int) := ps.foldl jst []
theorem jst_len (f : List (Int × Int)) (p : Int × Int) : (jst f p).length ≤ f.length + 1 := by
  unfold jst
  split
  · split
    · split
      · rename_i q hq _
        simp only [List.length_append, List.length_dropLast, List.length_singleton]
        omega
      · simp
    · simp
  · omega
theorem jnd_take {ps : List (Int × Int)} {i : Nat} {p : Int × Int} (h : ps[i]? = some p) :
    jnd (ps.take (i + 1)) = jst (jnd (ps.take i)) p := by
  unfold jnd
  rw [List.take_add_one, h, List.foldl_append]
  rfl
theorem jnd_len : ∀ (ps : List (Int × Int)) (i : Nat), (jnd (ps.take i)).length ≤ i
  | ps, 0 => by simp [jnd]
  | ps, i + 1 => by
    cases h : ps[i]? with
    | none =>
      have e : ps.take (i + 1) = ps.take i := by
        rw [List.take_add_one, h]
        simp
      rw [e]
      have q := jnd_len ps i
      omega
    | some p =>
      rw [jnd_take h]
      have q := jnd_len ps i
      have q2 := jst_len (jnd (ps.take i)) p
      omega
def sp_joined (K : PySem.W.Frag) : Sp := fun vs H Q _ => ∃ (a : Addr) (ps : List (Int × Int)),
  vs = [.ref a] ∧ Dp K H (.ref a) (.list (ps.map d2)) ∧ ps.length ≤ 100000 ∧
  ∀ l H', Fr H l → Kp [] H H' → LD K H' l ((jnd ps).map d2) → Q (.ref l) H'
theorem sc_joined : FnScope ["pairs", "found", "many", "number"] ["pairs"] (defScope s_joined) :=
  ⟨rfl, rfl, rfl, by decide +kernel, rfl, by decide +kernel, by decide +kernel⟩
theorem ok_joined {P : Program} {w : World} {K : PySem.W.Frag} {mg : Str → Option Value} {base : Heap} (T : Txt K mg) :
    FnG P w K mg base 1 T.a_joined T.d_joined ["pairs"] (sp_joined K) := by
  refine okD T.F_joined sc_joined (fun vs H Q E h => ?_) (fun cdv A outer s H vs Q E hr h => ?_)
  · first
      | (obtain ⟨_, rfl, _⟩ := h; rfl)
      | (obtain ⟨_, _, rfl, _⟩ := h; rfl)
      | (obtain ⟨_, _, _, rfl, _⟩ := h; rfl)
      | (obtain ⟨_, _, _, _, rfl, _⟩ := h; rfl)
      | (obtain ⟨_, _, _, _, _, rfl, _⟩ := h; rfl)
      | (obtain ⟨_, _, _, _, _, _, rfl, _⟩ := h; rfl)
      | (obtain ⟨_, _, _, _, _, _, _, rfl, _⟩ := h; rfl)
      | (obtain ⟨_, _, _, _, _, _, _, _, rfl, _⟩ := h; rfl)
      | (obtain ⟨_, _, _, _, _, _, _, _, _, rfl, _⟩ := h; rfl)
      | (obtain ⟨_, _, _, _, _, _, _, _, _, _, rfl, _⟩ := h; rfl)
      | (obtain ⟨_, _, _, _, _, _, _, _, _, _, _, rfl, _⟩ := h; rfl)
      | (obtain ⟨_, _, _, _, _, _, _, _, _, _, _, _, rfl, _⟩ := h; rfl)
      | (obtain ⟨_, _, _, _, _, _, _, _, _, _, _, _, _, rfl, _⟩ := h; rfl)
      | (obtain ⟨_, _, _, _, _, _, _, _, _, _, _, _, _, _, rfl, _⟩ := h; rfl)
      | (obtain ⟨_, _, _, _, _, _, _, _, _, _, _, _, _, _, _, rfl, _⟩ := h; rfl)
      | (obtain ⟨_, _, _, _, _, _, _, _, _, _, _, _, _, _, _, _, rfl, _⟩ := h; rfl)
      | (obtain ⟨_, _, _, _, _, _, _, _, _, _, _, _, _, _, _, _, _, rfl, _⟩ := h; rfl)
      | (obtain ⟨_, _, _, _, _, _, _, _, _, _, _, _, _, _, _, _, _, _, rfl, _⟩ := h; rfl)
      | (obtain ⟨_, _, _, _, _, _, _, _, _, _, _, _, _, _, _, _, _, _, _, rfl, _⟩ := h; rfl)
  · obtain ⟨a, ps, rfl, ha, hps, k⟩ := h
    cases ha
    rename_i xs hsq hall
    have hlen := dpa_len hall
    rw [List.length_map] at hlen
    have cl_Memory := T.cl_Memory
    have na_Memory_pairs := T.na_Memory_pairs
    have na_Memory_wide := T.na_Memory_wide
    refine ⟨_, (pss_cons (ps_set (i := 1) sc_joined.nd rfl (Or.inl rfl) (pe_lst pa_nil))
      (pss_cons (ps_for (passes_of rfl) rfl (k_plist (K := K) rfl (pv 0)) (k_gtup (K := K) 2 rfl rfl (pgs_cons (pg_name (i := 2) sc_joined.nd rfl (Or.inl rfl)) (pgs_cons (pg_name (i := 3) sc_joined.nd rfl (Or.inl rfl)) pgs_nil)))
      (pss_one (ps_if (PW.pt (pw_and (pt_cmpR op_gt (pv 2) pe_int (nomark _)) (pw_and (pt_cmpR (k_ne (K := K) rfl hr.r.units) (pv 1) (pe_lst pa_nil) (nomark _)) (pw_and1 (pt_cmpR (k_eq (K := K) rfl hr.r.units) (pe_ix (k_ix (K := K) rfl) (pe_ix (k_ix (K := K) rfl) (pv 1) (pe_un un_neg pe_int) (fun _ _ => rfl)) pe_int (fun _ _ => rfl)) (pv 3) (nomark _)))))) (pss_one (ps_asg (pe_tup (pa_cons (pe_op (k_add (K := K) rfl) (pe_ix (k_ix (K := K) rfl) (pe_ix (k_ix (K := K) rfl) (pv 1) (pe_un un_neg pe_int) (fun _ _ => rfl)) pe_int (fun _ _ => rfl)) (pv 2)) (pa_cons (pv 3) pa_nil))) (pg_sub (pv 1) (pe_un un_neg pe_int) set_list))) (pss_one (ps_if (pt_cmpR op_gt (pv 2) pe_int (nomark _)) (pss_one (ps_expr (pe_bm PySem.F.plainAttrs_list PySem.F.slot_list_append PySem.F.type_list_append mt_append (pv 1) (pa_cons (pe_tup (pa_cons (pv 2) (pa_cons (pv 3) pa_nil))) pa_nil)))) pss_nil)))))
      (pss_one (ps_ret (pv 1))))), ?_⟩
    dsimp only [cxOf, st_1, st_2, st_3, st_4, st_5, st_6, List.length_cons, List.length_nil, List.replicate_succ, List.replicate_zero, Nat.reduceAdd, Nat.reduceSub]
    walk_at "gs"
    refine i_new fun l hl => ?_
    walk_at "gs"
    refine i_each ((Kp.new hl).seqL (ws := []) List.not_mem_nil hsq) (fun i σ H' => ∃ u v, σ = [some (.ref a), some (.ref l), u, v] ∧ Kp [] H H' ∧
      LD K H' l ((jnd (ps.take i)).map d2)) ?_ ?_ ?_ ?_
    · exact ⟨none, none, rfl, Kp.new hl, ⟨[], upd_same, .nil⟩⟩
    · rintro i σ H' _ ⟨u, v, rfl, kp, ld⟩
      exact kp.seqL List.not_mem_nil hsq
    · rintro i x σ H' hx ⟨u, v, rfl, kp, ld⟩
      obtain ⟨d, hd, hdp⟩ := dpa_getV hall hx
      obtain ⟨p, hp, rfl⟩ := map_get hd
      obtain ⟨pa, rfl, hpt⟩ := dp_pair hdp
      replace hpt := kp.seqT hpt
      obtain ⟨vs, hvs, hall2⟩ := id ld
      have hvl := dpa_len hall2
      rw [List.length_map] at hvl
      have hjl := jnd_len ps i
      have hil : i < ps.length := (List.getElem?_eq_some_iff.mp hp).1
      walk_at "gs"
      refine i_dec (fun h0 => ?_) (fun h0 => ?_)
      · walk_at "gs"
        refine i_new fun q hq => ?_
        walk_at "gs"
        refine ne_nil ld (imms_d2 _) (shaped_pairs _) hq ?_
        walk_at "gs"
        refine i_boN (fun e => ?_) (fun e => ?_)
        · obtain ⟨f0, q0, hF⟩ := list_last (l := jnd (ps.take i)) (by
            intro z
            rw [z] at e
            cases e)
          rw [hF, List.map_append] at hall2
          obtain ⟨us, x, rfl, hu, hx2⟩ := dpa_last hall2
          obtain ⟨qa, rfl, hqa⟩ := dp_pair hx2
          rw [List.length_append, List.length_singleton] at hvl
          walk_at "gs"
          refine i_dec (fun h1 => ?_) (fun h1 => ?_)
          · walk_at "gs"
            refine i_new fun t ht => ?_
            walk_at "gs"
            rw [set_last]
            refine ⟨_, _, rfl, ?_, _, upd_same, ?_⟩
            · walk_at "g_kp"
            · have kl : Kp [l] H' (upd (upd (upd H' q (.lst [])) t (.tup [.int (q0.1 + p.1), .int p.2])) l
                  (.lst (us ++ [V.ref t]))) := by walk_at "g_kp"
              rw [jnd_take hp, hF, jst_same h0 h1, List.map_append]
              exact dpa_app (dpa_imm kl _ _ (imms_d2 _) hu) (dpa_one (dp_mk2 (by walk_at "g_st")))
          · walk_at "gs"
            refine i_dec (fun _ => ?_) (fun z => absurd h0 z)
            walk_at "gs"
            refine i_new fun t ht => ?_
            walk_at "gs"
            refine ⟨_, _, rfl, ?_, _, upd_same, ?_⟩
            · walk_at "g_kp"
            · have kl : Kp [l] H' (upd (upd (upd H' q (.lst [])) t (.tup [.int p.1, .int p.2])) l
                  (.lst (us ++ [V.ref qa] ++ [V.ref t]))) := by walk_at "g_kp"
              rw [jnd_take hp, hF, jst_other h0 h1, List.map_append, List.map_append]
              exact dpa_app (dpa_app (dpa_imm kl _ _ (imms_d2 _) hu) (dpa_one (dp_imm kl _ _ rfl hx2))) (dpa_one (dp_mk2 (by walk_at "g_st")))
        · walk_at "gs"
          refine i_dec (fun _ => ?_) (fun z => absurd h0 z)
          walk_at "gs"
          refine i_new fun t ht => ?_
          walk_at "gs"
          have hF : jnd (ps.take i) = [] := by
            cases z : jnd (ps.take i) with
            | nil => rfl
            | cons x y =>
              rw [z] at e
              cases e
          rw [hF] at hall2
          cases hall2
          refine ⟨_, _, rfl, ?_, _, upd_same, ?_⟩
          · walk_at "g_kp"
          · rw [jnd_take hp, hF, jst_nil h0]
            exact dpa_one (dp_mk2 (by walk_at "g_st"))
      · walk_at "gs"
        refine i_dec (fun z => absurd z h0) (fun _ => ?_)
        walk_at "gs"
        refine ⟨_, _, rfl, kp, ?_⟩
        rw [jnd_take hp, jst_no h0]
        exact ld
    · rintro σ H' ⟨u, v, rfl, kp, ld⟩
      walk_at "gs"
      rw [List.take_of_length_le (by omega)] at ld
      exact k l H' hl kp ld

/-! ### counting from the back -/
def wst (f : List (Int × Int)) (p : Int × Int) : List (Int × Int) :=
  match f with
  | [] => [(0 + p.1, p.2)]
  | q :: t => if q.2 = p.2 then (q.1 + p.1, p.2) :: t else (0 + p.1, p.2) :: q :: t
def pos (p : Int × Int) : Bool := decide (0 < p.1)
def wrt (ps : List (Int × Int)) : List (Int × Int) := (ps.reverse.filter pos).foldl wst []
def wr : List (Int × Int) → List (Int × Int)
  | [] => []
  | p :: ps => if 0 < p.1 then wst (wr ps) p else wr ps
theorem wrt_eq (ps : List (Int × Int)) : wrt ps = wr ps := by
  induction ps with
  | nil => rfl
  | cons p ps ih =>
    unfold wrt at *
    rw [List.reverse_cons, List.filter_append, List.foldl_append, ih]
    by_cases h : 0 < p.1
    · simp [wr, h, pos]
    · simp [wr, h, pos]
/-- what is put ahead of the rest -/
def glue (f : List (Int × Int)) : List (Int × Int) → List (Int × Int)
  | [] => f
  | q :: t => jst f q ++ t
theorem wr_pos : ∀ (ps : List (Int × Int)) (q : Int × Int), q ∈ wr ps → 0 < q.1
  | [], _, h => nomatch h
  | p :: ps, q, h => by
    unfold wr at h
    by_cases hp : 0 < p.1
    · rw [if_pos hp] at h
      cases e : wr ps with
      | nil =>
        rw [e] at h
        simp only [wst, List.mem_singleton] at h
        rw [h]
        show 0 < 0 + p.1
        omega
      | cons x t =>
        have hx : 0 < x.1 := wr_pos ps x (by rw [e]; exact List.mem_cons_self)
        rw [e] at h
        unfold wst at h
        simp only at h
        by_cases hq : x.2 = p.2
        · rw [if_pos hq] at h
          rcases List.mem_cons.mp h with z | z
          · rw [z]
            show 0 < x.1 + p.1
            omega
          · exact wr_pos ps q (by rw [e]; exact List.mem_cons_of_mem _ z)
        · rw [if_neg hq] at h
          rcases List.mem_cons.mp h with z | z
          · rw [z]
            show 0 < 0 + p.1
            omega
          · exact wr_pos ps q (by rw [e]; exact z)
    · rw [if_neg hp] at h
      exact wr_pos ps q h
theorem jst_cases (f : List (Int × Int)) (p : Int × Int) (h : 0 < p.1) :
    (∃ f0 q0, f = f0 ++ [q0] ∧ q0.2 = p.2 ∧ jst f p = f0 ++ [(q0.1 + p.1, p.2)]) ∨
    ((∀ f0 q0, f = f0 ++ [q0] → q0.2 ≠ p.2) ∧ jst f p = f ++ [p]) := by
  by_cases e : f = []
  · subst e
    exact .inr ⟨fun f0 q0 z => by simp at z, jst_nil h⟩
  · obtain ⟨f0, q0, rfl⟩ := list_last e
    by_cases c : q0.2 = p.2
    · exact .inl ⟨f0, q0, rfl, c, jst_same h c⟩
    · refine .inr ⟨fun g0 r0 z => ?_, jst_other h c⟩
      have z2 := List.append_inj_right' z rfl
      cases z2
      exact c
theorem jst_two (f : List (Int × Int)) (p q : Int × Int) (hp : 0 < p.1) (hq : 0 < q.1) (e : q.2 = p.2) :
    jst (jst f p) q = jst f (q.1 + p.1, p.2) := by
  have h3 : 0 < ((q.1 + p.1, p.2) : Int × Int).1 := by
    show 0 < q.1 + p.1
    omega
  rcases jst_cases f p hp with ⟨f0, q0, rfl, c, z⟩ | ⟨c, z⟩
  · rw [z, jst_same (q0 := (q0.1 + p.1, p.2)) (p := q) hq e.symm, jst_same h3 c]
    congr 2
    rw [e]
    congr 1
    show q0.1 + p.1 + q.1 = q0.1 + (q.1 + p.1)
    omega
  · rw [z, jst_same hq e.symm]
    rcases jst_cases f (q.1 + p.1, p.2) h3 with ⟨f0, q0, rfl, c2, z2⟩ | ⟨c2, z2⟩
    · exact absurd c2 (c f0 q0 rfl)
    · rw [z2, e]
      congr 3
      omega
theorem fold_glue : ∀ (ps f : List (Int × Int)), ps.foldl jst f = glue f (wr ps)
  | [], f => rfl
  | p :: ps, f => by
    rw [List.foldl_cons, fold_glue ps (jst f p)]
    by_cases hp : 0 < p.1
    · have e : wr (p :: ps) = wst (wr ps) p := by
        show (if 0 < p.1 then wst (wr ps) p else wr ps) = _
        rw [if_pos hp]
      rw [e]
      cases h : wr ps with
      | nil =>
        show jst f p = jst f (0 + p.1, p.2) ++ []
        rw [Int.zero_add, List.append_nil]
      | cons q t =>
        have hq : 0 < q.1 := wr_pos ps q (by rw [h]; exact List.mem_cons_self)
        unfold wst
        simp only
        by_cases c : q.2 = p.2
        · rw [if_pos c]
          show jst (jst f p) q ++ t = jst f (q.1 + p.1, p.2) ++ t
          rw [jst_two f p q hp hq c]
        · rw [if_neg c]
          show jst (jst f p) q ++ t = jst f (0 + p.1, p.2) ++ (q :: t)
          rw [Int.zero_add]
          have z : jst (jst f p) q = jst f p ++ [q] := by
            rcases jst_cases f p hp with ⟨f0, q0, rfl, d, z⟩ | ⟨d, z⟩
            · rw [z, jst_other (q0 := (q0.1 + p.1, p.2)) (p := q) hq (fun k => c k.symm)]
            · rw [z, jst_other hq (fun k => c k.symm)]
          rw [z, List.append_assoc]
          rfl
    · have e : wr (p :: ps) = wr ps := by
        show (if 0 < p.1 then wst (wr ps) p else wr ps) = _
        rw [if_neg hp]
      rw [e, jst_no hp]
theorem jnd_wr (ps : List (Int × Int)) : jnd ps = wr ps := by
  unfold jnd
  rw [fold_glue]
  cases h : wr ps with
  | nil => rfl
  | cons q t =>
    have hq : 0 < q.1 := wr_pos ps q (by rw [h]; exact List.mem_cons_self)
    show jst [] q ++ t = q :: t
    rw [jst_nil hq]
    rfl
theorem wr_len : ∀ ps : List (Int × Int), (wr ps).length ≤ ps.length
  | [] => Nat.le_refl _
  | p :: ps => by
    have q := wr_len ps
    unfold wr
    split
    · cases h : wr ps with
      | nil => simp [wst]
      | cons x t =>
        rw [h] at q
        simp only [wst, List.length_cons] at *
        split <;> simp only [List.length_cons] <;> omega
    · rw [List.length_cons]
      omega
/-- told again of what was told it is the same -/
theorem wst_wr (f : List (Int × Int)) (p : Int × Int) (hp : 0 < p.1) (hf : wr f = f)
    (hpos : ∀ q ∈ f, 0 < q.1) : wr (wst f p) = wst f p := by
  cases f with
  | nil =>
    show (if 0 < 0 + p.1 then wst [] (0 + p.1, p.2) else []) = [(0 + p.1, p.2)]
    rw [Int.zero_add, if_pos hp]
    simp [wst]
  | cons q t =>
    have hq := hpos q List.mem_cons_self
    have ht : wst (wr t) q = q :: t := by
      have z : (if 0 < q.1 then wst (wr t) q else wr t) = q :: t := hf
      rwa [if_pos hq] at z
    unfold wst
    simp only
    by_cases c : q.2 = p.2
    · rw [if_pos c]
      show (if 0 < q.1 + p.1 then wst (wr t) (q.1 + p.1, p.2) else wr t) = _
      rw [if_pos (by omega)]
      cases e : wr t with
      | nil =>
        rw [e] at ht
        simp only [wst, List.cons.injEq] at ht
        simp [wst, ← ht.2]
      | cons x u =>
        rw [e] at ht
        unfold wst at ht ⊢
        simp only at ht ⊢
        by_cases d : x.2 = q.2
        · rw [if_pos d] at ht
          have hu : wr t = t := by
            have l1 := wr_len t
            rw [e] at l1
            have l2 := congrArg List.length ht
            simp only [List.length_cons] at l1 l2
            omega
          rw [hu] at e
          subst e
          have l2 := congrArg List.length ht
          simp only [List.length_cons] at l2
          omega
        · rw [if_neg d] at ht
          rw [if_neg (by rw [← c]; exact d)]
          rw [Int.zero_add]
          have z := (List.cons.inj ht).2
          rw [z]
    · rw [if_neg c]
      show (if 0 < 0 + p.1 then wst (wr (q :: t)) (0 + p.1, p.2) else wr (q :: t)) = _
      rw [Int.zero_add, if_pos hp, hf]
      unfold wst
      simp only
      rw [if_neg c, Int.zero_add]
theorem wr_wr : ∀ ps : List (Int × Int), wr (wr ps) = wr ps
  | [] => rfl
  | p :: ps => by
    have e : wr (p :: ps) = if 0 < p.1 then wst (wr ps) p else wr ps := rfl
    rw [e]
    split
    · exact wst_wr _ _ (by assumption) (wr_wr ps) (wr_pos ps)
    · exact wr_wr ps

/-! ### runs and cells -/
def rle (cs : List Int) : List (Int × Int) := wr (cs.map tag)
theorem cells_nil : cells [] = [] := rfl
theorem cells_cons (p : Int × Int) (ps : List (Int × Int)) : cells (p :: ps) = List.replicate p.1.toNat p.2 ++ cells ps := rfl
theorem cells_app (ps qs : List (Int × Int)) : cells (ps ++ qs) = cells ps ++ cells qs := List.flatMap_append
theorem cells_tag : ∀ cs : List Int, cells (cs.map tag) = cs
  | [] => rfl
  | c :: cs => by
    rw [List.map_cons, cells_cons, cells_tag cs]
    rfl
theorem cells_wst (f : List (Int × Int)) (p : Int × Int) (hp : 0 < p.1) (hf : ∀ q ∈ f, 0 < q.1) :
    cells (wst f p) = List.replicate p.1.toNat p.2 ++ cells f := by
  cases f with
  | nil => simp [wst, cells_cons]
  | cons q t =>
    have hq := hf q List.mem_cons_self
    unfold wst
    simp only
    by_cases c : q.2 = p.2
    · rw [if_pos c, cells_cons, cells_cons]
      show List.replicate (q.1 + p.1).toNat p.2 ++ cells t = _
      have e : (q.1 + p.1).toNat = p.1.toNat + q.1.toNat := by omega
      rw [e, ← List.replicate_append_replicate, List.append_assoc, c]
    · rw [if_neg c, cells_cons]
      show List.replicate (0 + p.1).toNat p.2 ++ _ = _
      rw [Int.zero_add]
theorem cells_wr : ∀ ps : List (Int × Int), cells (wr ps) = cells ps
  | [] => rfl
  | p :: ps => by
    rw [cells_cons]
    unfold wr
    by_cases hp : 0 < p.1
    · rw [if_pos hp, cells_wst _ _ hp (wr_pos ps), cells_wr ps]
    · rw [if_neg hp, cells_wr ps]
      have e : p.1.toNat = 0 := by omega
      rw [e]
      rfl
theorem wst_more (f : List (Int × Int)) (n v : Int) (hn : 0 < n) : wst (wst f (n, v)) (1, v) = wst f (n + 1, v) := by
  cases f with
  | nil =>
    show wst [(0 + n, v)] (1, v) = [(0 + (n + 1), v)]
    unfold wst
    simp only [if_true]
    congr 2
    omega
  | cons q t =>
    by_cases c : q.2 = v
    · have e1 : wst (q :: t) (n, v) = (q.1 + n, v) :: t := by simp [wst, c]
      have e2 : wst (q :: t) (n + 1, v) = (q.1 + (n + 1), v) :: t := by simp [wst, c]
      have e3 : wst ((q.1 + n, v) :: t) (1, v) = (q.1 + n + 1, v) :: t := by simp [wst]
      rw [e1, e2, e3]
      congr 2
      omega
    · have e1 : wst (q :: t) (n, v) = (0 + n, v) :: q :: t := by simp [wst, c]
      have e2 : wst (q :: t) (n + 1, v) = (0 + (n + 1), v) :: q :: t := by simp [wst, c]
      have e3 : wst ((0 + n, v) :: q :: t) (1, v) = (0 + n + 1, v) :: q :: t := by simp [wst]
      rw [e1, e2, e3]
      congr 2
      omega
theorem wst_one (f : List (Int × Int)) (c : Int) : wr (tag c :: f) = wst (wr f) (1, c) := by
  show (if (0 : Int) < 1 then wst (wr f) (1, c) else wr f) = _
  rw [if_pos (by decide)]
theorem rle_rep (v : Int) (cs : List Int) : ∀ n : Nat, rle (List.replicate (n + 1) v ++ cs) = wst (rle cs) ((n : Int) + 1, v)
  | 0 => by
    show wr (tag v :: cs.map tag) = _
    rw [wst_one]
    rfl
  | n + 1 => by
    have ih := rle_rep v cs n
    have e : rle (List.replicate (n + 1 + 1) v ++ cs) = wst (rle (List.replicate (n + 1) v ++ cs)) (1, v) := by
      show wr (tag v :: (List.replicate (n + 1) v ++ cs).map tag) = _
      rw [wst_one]
      rfl
    rw [e, ih, wst_more _ _ _ (by omega)]
    congr 2
theorem wr_rle : ∀ ps : List (Int × Int), wr ps = rle (cells ps)
  | [] => rfl
  | p :: ps => by
    have ih := wr_rle ps
    rw [cells_cons]
    unfold wr
    by_cases hp : 0 < p.1
    · obtain ⟨n, hn⟩ : ∃ n : Nat, p.1.toNat = n + 1 := ⟨p.1.toNat - 1, by omega⟩
      rw [if_pos hp, hn, rle_rep, ih]
      congr 1
      have e : ((n : Int) + 1) = p.1 := by omega
      rw [e]
    · rw [if_neg hp]
      have e : p.1.toNat = 0 := by omega
      rw [e]
      exact ih
theorem cells_rle (cs : List Int) : cells (rle cs) = cs := by
  unfold rle
  rw [cells_wr, cells_tag]
theorem rle_len (cs : List Int) : (rle cs).length ≤ cs.length := by
  have h := wr_len (cs.map tag)
  rw [List.length_map] at h
  exact h
theorem rle_pos (cs : List Int) : ∀ q ∈ rle cs, 0 < q.1 := wr_pos _
theorem jnd_rle (ps : List (Int × Int)) : jnd ps = rle (cells ps) := by rw [jnd_wr, wr_rle]
theorem rle_inj {cs ds : List Int} (h : rle cs = rle ds) : cs = ds := by
  rw [← cells_rle cs, h, cells_rle]
theorem rle_ne {cs : List Int} (h : cs ≠ []) : rle cs ≠ [] := fun z => h (by rw [← cells_rle cs, z]; rfl)
/-- what of the pairs, that begin at a, lies between b and e -/
def cutF (b e : Int) : Int → List (Int × Int) → List (Int × Int)
  | _, [] => []
  | a, p :: t => (if max b a < min e (a + p.1) then [(min e (a + p.1) - max b a, p.2)] else []) ++ cutF b e (a + p.1) t
def cut (b e : Int) (ps : List (Int × Int)) : List (Int × Int) := cutF b e 0 ps
theorem cutF_len (b e : Int) : ∀ (a : Int) (ps : List (Int × Int)), (cutF b e a ps).length ≤ ps.length
  | _, [] => Nat.le_refl _
  | a, p :: t => by
    have h := cutF_len b e (a + p.1) t
    unfold cutF
    rw [List.length_append, List.length_cons]
    split <;> simp <;> omega
theorem cut_len (b e : Int) (ps : List (Int × Int)) : (cut b e ps).length ≤ ps.length := cutF_len b e 0 ps
theorem cutF_pos (b e : Int) : ∀ (a : Int) (ps : List (Int × Int)) (q : Int × Int), q ∈ cutF b e a ps → 0 < q.1
  | _, [], _, h => nomatch h
  | a, p :: t, q, h => by
    unfold cutF at h
    rcases List.mem_append.mp h with h | h
    · split at h
      · rw [List.mem_singleton.mp h]
        show 0 < min e (a + p.1) - max b a
        omega
      · exact nomatch h
    · exact cutF_pos b e (a + p.1) t q h
def wide (ps : List (Int × Int)) : Int := (ps.map (·.1)).sum
theorem cutF_app (b e : Int) : ∀ (a : Int) (ps : List (Int × Int)) (p : Int × Int), cutF b e a (ps ++ [p]) =
    cutF b e a ps ++ (if max b (a + wide ps) < min e (a + wide ps + p.1) then [(min e (a + wide ps + p.1) - max b (a + wide ps), p.2)] else [])
  | a, [], p => by
    have e0 : a + wide [] = a := Int.add_zero a
    rw [e0]
    show (if max b a < min e (a + p.1) then [(min e (a + p.1) - max b a, p.2)] else []) ++ [] = [] ++ _
    rw [List.append_nil, List.nil_append]
  | a, q :: t, p => by
    have ih := cutF_app b e (a + q.1) t p
    have e0 : a + wide (q :: t) = a + q.1 + wide t := by
      show a + (q.1 + wide t) = _
      omega
    rw [List.cons_append, e0]
    conv => lhs; unfold cutF
    rw [ih]
    conv => rhs; unfold cutF
    rw [List.append_assoc]
theorem cut_take {b e : Int} {ps : List (Int × Int)} {i : Nat} {p : Int × Int} (h : ps[i]? = some p) :
    cut b e (ps.take (i + 1)) = cut b e (ps.take i) ++ (if max b (wide (ps.take i)) < min e (wide (ps.take i) + p.1)
      then [(min e (wide (ps.take i) + p.1) - max b (wide (ps.take i)), p.2)] else []) := by
  unfold cut
  rw [List.take_add_one, h]
  have k := cutF_app b e 0 (ps.take i) p
  rw [Int.zero_add] at k
  exact k
theorem wide_take {ps : List (Int × Int)} {i : Nat} {p : Int × Int} (h : ps[i]? = some p) :
    wide (ps.take (i + 1)) = wide (ps.take i) + p.1 := by
  unfold wide
  rw [List.take_add_one, h, List.map_append, List.sum_append]
  simp
theorem cells_cutF (b e : Int) : ∀ (a : Int) (ps : List (Int × Int)), (∀ q ∈ ps, 0 ≤ q.1) →
    cells (cutF b e a ps) = ((cells ps).drop (b - a).toNat).take ((e - a).toNat - (b - a).toNat)
  | a, [], _ => by simp [cutF, cells]
  | a, p :: t, h => by
    have hp := h p List.mem_cons_self
    have ih := cells_cutF b e (a + p.1) t fun q hq => h q (List.mem_cons_of_mem _ hq)
    unfold cutF
    rw [cells_app, ih, cells_cons, List.drop_append, List.take_append, List.drop_replicate, List.take_replicate, List.length_replicate, List.length_replicate]
    congr 1
    · split
      · rw [cells_cons, cells_nil, List.append_nil]
        show List.replicate (min e (a + p.1) - max b a).toNat p.2 = _
        congr 1
        omega
      · have e0 : min ((e - a).toNat - (b - a).toNat) (p.1.toNat - (b - a).toNat) = 0 := by omega
        rw [e0]
        rfl
    · have e1 : (b - (a + p.1)).toNat = (b - a).toNat - p.1.toNat := by omega
      have e2 : (e - (a + p.1)).toNat - (b - (a + p.1)).toNat = (e - a).toNat - (b - a).toNat - (p.1.toNat - (b - a).toNat) := by omega
      rw [e2, e1]
theorem cells_cut {b e : Int} {ps : List (Int × Int)} (h : ∀ q ∈ ps, 0 ≤ q.1) :
    cells (cut b e ps) = ((cells ps).drop b.toNat).take (e.toNat - b.toNat) := by
  have k := cells_cutF b e 0 ps h
  rw [Int.sub_zero, Int.sub_zero] at k
  exact k
theorem cut_rle {b e : Int} {cs : List Int} : cells (cut b e (rle cs)) = (cs.drop b.toNat).take (e.toNat - b.toNat) := by
  rw [cells_cut fun q hq => Int.le_of_lt (rle_pos cs q hq), cells_rle]
theorem one_cell {ps : List (Int × Int)} {v : Int} (hp : ∀ q ∈ ps, 0 < q.1) (h : cells ps = [v]) : ps = [(1, v)] := by
  cases ps with
  | nil => cases h
  | cons p t =>
    have h0 := hp p List.mem_cons_self
    rw [cells_cons] at h
    have hl := congrArg List.length h
    rw [List.length_append, List.length_replicate, List.length_singleton] at hl
    have e1 : p.1.toNat = 1 := by omega
    have e2 : t = [] := by
      cases t with
      | nil => rfl
      | cons q u =>
        have h1 := hp q (List.mem_cons_of_mem _ List.mem_cons_self)
        rw [cells_cons, List.length_append, List.length_replicate] at hl
        omega
    rw [e1, e2, cells_nil, List.append_nil] at h
    cases h
    rw [e2]
    congr 1
    have e3 : p.1 = 1 := by omega
    rw [← e3]
theorem cut_at {cs : List Int} {c : Nat} {v : Int} (h : cs[c]? = some v) : cut c (c + 1) (rle cs) = [(1, v)] := by
  refine one_cell (cutF_pos _ _ _ _) ?_
  rw [cut_rle]
  obtain ⟨hc, e⟩ := List.getElem?_eq_some_iff.mp h
  have e1 : ((c : Int)).toNat = c := by omega
  have e2 : ((c : Int) + 1).toNat - c = 1 := by omega
  rw [e1, e2, List.drop_eq_getElem_cons hc, e]
  rfl
/-- laid over -/
def laid (cs : List Int) (b : Nat) (xs : List Int) (e : Nat) : List Int := cs.take b ++ xs ++ cs.drop e
theorem laid_rle {cs : List Int} {b e : Int} {ps : List (Int × Int)} :
    jnd (cut 0 b (rle cs) ++ ps ++ cut e cs.length (rle cs)) = rle (laid cs b.toNat (cells ps) e.toNat) := by
  rw [jnd_rle, cells_app, cells_app, cut_rle, cut_rle]
  unfold laid
  rw [List.take_of_length_le (l := cs.drop e.toNat) (by rw [List.length_drop]; omega)]
  rfl
theorem laid_len {cs xs : List Int} {b e : Nat} (h : b ≤ e) (he : e ≤ cs.length) (hx : xs.length = e - b) :
    (laid cs b xs e).length = cs.length := by
  unfold laid
  rw [List.length_append, List.length_append, List.length_take, List.length_drop, hx]
  omega
theorem cells_len : ∀ ps : List (Int × Int), (∀ q ∈ ps, 0 < q.1) → ((cells ps).length : Int) = wide ps
  | [], _ => rfl
  | p :: ps, h => by
    have ih := cells_len ps fun q hq => h q (List.mem_cons_of_mem _ hq)
    have hp := h p List.mem_cons_self
    rw [cells_cons, List.length_append, List.length_replicate]
    show ((p.1.toNat + (cells ps).length : Nat) : Int) = p.1 + wide ps
    omega

/-! ### numbers -/
def sp_is_number : Sp := fun vs H Q _ => ∃ n : Int, vs = [.int n] ∧ Q (.bl true) H
theorem sc_is_number : FnScope ["thing"] ["thing"] (defScope s_is_number) :=
  ⟨rfl, rfl, rfl, by decide +kernel, rfl, by decide +kernel, by decide +kernel⟩
theorem ok_is_number {P : Program} {w : World} {K : PySem.W.Frag} {mg : Str → Option Value} {base : Heap} (T : Txt K mg) :
    FnG P w K mg base 1 T.a_is_number T.d_is_number ["thing"] sp_is_number := by
  refine okD T.F_is_number sc_is_number (fun vs H Q E h => ?_) (fun cdv A outer s H vs Q E hr h => ?_)
  · first
      | (obtain ⟨_, rfl, _⟩ := h; rfl)
      | (obtain ⟨_, _, rfl, _⟩ := h; rfl)
      | (obtain ⟨_, _, _, rfl, _⟩ := h; rfl)
      | (obtain ⟨_, _, _, _, rfl, _⟩ := h; rfl)
      | (obtain ⟨_, _, _, _, _, rfl, _⟩ := h; rfl)
      | (obtain ⟨_, _, _, _, _, _, rfl, _⟩ := h; rfl)
      | (obtain ⟨_, _, _, _, _, _, _, rfl, _⟩ := h; rfl)
      | (obtain ⟨_, _, _, _, _, _, _, _, rfl, _⟩ := h; rfl)
      | (obtain ⟨_, _, _, _, _, _, _, _, _, rfl, _⟩ := h; rfl)
      | (obtain ⟨_, _, _, _, _, _, _, _, _, _, rfl, _⟩ := h; rfl)
      | (obtain ⟨_, _, _, _, _, _, _, _, _, _, _, rfl, _⟩ := h; rfl)
      | (obtain ⟨_, _, _, _, _, _, _, _, _, _, _, _, rfl, _⟩ := h; rfl)
      | (obtain ⟨_, _, _, _, _, _, _, _, _, _, _, _, _, rfl, _⟩ := h; rfl)
      | (obtain ⟨_, _, _, _, _, _, _, _, _, _, _, _, _, _, rfl, _⟩ := h; rfl)
      | (obtain ⟨_, _, _, _, _, _, _, _, _, _, _, _, _, _, _, rfl, _⟩ := h; rfl)
      | (obtain ⟨_, _, _, _, _, _, _, _, _, _, _, _, _, _, _, _, rfl, _⟩ := h; rfl)
      | (obtain ⟨_, _, _, _, _, _, _, _, _, _, _, _, _, _, _, _, _, rfl, _⟩ := h; rfl)
      | (obtain ⟨_, _, _, _, _, _, _, _, _, _, _, _, _, _, _, _, _, _, rfl, _⟩ := h; rfl)
      | (obtain ⟨_, _, _, _, _, _, _, _, _, _, _, _, _, _, _, _, _, _, _, rfl, _⟩ := h; rfl)
  · obtain ⟨n, rfl, k⟩ := h
    refine ⟨_, (pss_one (ps_ret (pe_and (pe_callB (k_isi (K := K) rfl) (by rfl) T.n_isinstance (by decide +kernel) (pa_cons (pv 0) (pa_cons (pe_bltn (v := .ty "int") (by rfl) T.n_int (by decide +kernel) rfl) pa_nil))) (pe_one (pe_not (pe_callB (k_isi (K := K) rfl) (by rfl) T.n_isinstance (by decide +kernel) (pa_cons (pv 0) (pa_cons (pe_bltn (v := .ty "bool") (by rfl) T.n_bool (by decide +kernel) rfl) pa_nil)))))))), ?_⟩
    dsimp only [cxOf, st_1, st_2, st_3, st_4, st_5, st_6, List.length_cons, List.length_nil, List.replicate_succ, List.replicate_zero, Nat.reduceAdd, Nat.reduceSub]
    walk_at "gs"
    refine i_isD (.int n) (show kitB "int" "int" = some true by decide +kernel) ?_
    walk_at "gs"
    refine i_isD (.int n) (show kitB "int" "bool" = some false by decide +kernel) ?_
    walk_at "gs"
    exact k
def sp_is_whole : Sp := fun vs H Q _ => ∃ n a b : Int, vs = [.int n, .int a, .int b] ∧ Q (.bl (decide (a ≤ n ∧ n ≤ b))) H
theorem sc_is_whole : FnScope ["thing", "least", "most"] ["thing", "least", "most"] (defScope s_is_whole) :=
  ⟨rfl, rfl, rfl, by decide +kernel, rfl, by decide +kernel, by decide +kernel⟩
theorem ok_is_whole {P : Program} {w : World} {K : PySem.W.Frag} {mg : Str → Option Value} {base : Heap} (T : Txt K mg) :
    FnG P w K mg base 2 T.a_is_whole T.d_is_whole ["thing", "least", "most"] sp_is_whole := by
  refine okD T.F_is_whole sc_is_whole (fun vs H Q E h => ?_) (fun cdv A outer s H vs Q E hr h => ?_)
  · first
      | (obtain ⟨_, rfl, _⟩ := h; rfl)
      | (obtain ⟨_, _, rfl, _⟩ := h; rfl)
      | (obtain ⟨_, _, _, rfl, _⟩ := h; rfl)
      | (obtain ⟨_, _, _, _, rfl, _⟩ := h; rfl)
      | (obtain ⟨_, _, _, _, _, rfl, _⟩ := h; rfl)
      | (obtain ⟨_, _, _, _, _, _, rfl, _⟩ := h; rfl)
      | (obtain ⟨_, _, _, _, _, _, _, rfl, _⟩ := h; rfl)
      | (obtain ⟨_, _, _, _, _, _, _, _, rfl, _⟩ := h; rfl)
      | (obtain ⟨_, _, _, _, _, _, _, _, _, rfl, _⟩ := h; rfl)
      | (obtain ⟨_, _, _, _, _, _, _, _, _, _, rfl, _⟩ := h; rfl)
      | (obtain ⟨_, _, _, _, _, _, _, _, _, _, _, rfl, _⟩ := h; rfl)
      | (obtain ⟨_, _, _, _, _, _, _, _, _, _, _, _, rfl, _⟩ := h; rfl)
      | (obtain ⟨_, _, _, _, _, _, _, _, _, _, _, _, _, rfl, _⟩ := h; rfl)
      | (obtain ⟨_, _, _, _, _, _, _, _, _, _, _, _, _, _, rfl, _⟩ := h; rfl)
      | (obtain ⟨_, _, _, _, _, _, _, _, _, _, _, _, _, _, _, rfl, _⟩ := h; rfl)
      | (obtain ⟨_, _, _, _, _, _, _, _, _, _, _, _, _, _, _, _, rfl, _⟩ := h; rfl)
      | (obtain ⟨_, _, _, _, _, _, _, _, _, _, _, _, _, _, _, _, _, rfl, _⟩ := h; rfl)
      | (obtain ⟨_, _, _, _, _, _, _, _, _, _, _, _, _, _, _, _, _, _, rfl, _⟩ := h; rfl)
      | (obtain ⟨_, _, _, _, _, _, _, _, _, _, _, _, _, _, _, _, _, _, _, rfl, _⟩ := h; rfl)
  · obtain ⟨n, a, b, rfl, k⟩ := h
    refine ⟨_, (pss_one (ps_ret (pe_and (d1 (ok_is_number T) (hr.mono (by decide)) (by rfl) T.m_is_number T.F_is_number.kp T.b_is_number passL (pa_cons (pv 0) pa_nil)) (pe_one (pe_chain op_le op_le (pv 1) (pv 0) (pv 2)))))), ?_⟩
    dsimp only [cxOf, st_1, st_2, st_3, st_4, st_5, st_6, List.length_cons, List.length_nil, List.replicate_succ, List.replicate_zero, Nat.reduceAdd, Nat.reduceSub]
    walk_at "gs"
    refine ⟨n, rfl, ?_⟩
    walk_at "gs"
    refine i_dec (fun c => ?_) (fun c => ?_)
    · walk_at "gs"
      have e : decide (n ≤ b) = decide (a ≤ n ∧ n ≤ b) := by simp only [c, true_and]
      rw [e]
      exact k
    · have e : false = decide (a ≤ n ∧ n ≤ b) := by simp only [c, false_and, decide_false]
      rw [e]
      exact k
def sp_is_size : Sp := fun vs H Q _ => ∃ n : Int, vs = [.int n] ∧ Q (.bl (decide (1 ≤ n ∧ n ≤ 1000000000000000000))) H
theorem sc_is_size : FnScope ["thing"] ["thing"] (defScope s_is_size) :=
  ⟨rfl, rfl, rfl, by decide +kernel, rfl, by decide +kernel, by decide +kernel⟩
theorem ok_is_size {P : Program} {w : World} {K : PySem.W.Frag} {mg : Str → Option Value} {base : Heap} (T : Txt K mg) :
    FnG P w K mg base 3 T.a_is_size T.d_is_size ["thing"] sp_is_size := by
  refine okD T.F_is_size sc_is_size (fun vs H Q E h => ?_) (fun cdv A outer s H vs Q E hr h => ?_)
  · first
      | (obtain ⟨_, rfl, _⟩ := h; rfl)
      | (obtain ⟨_, _, rfl, _⟩ := h; rfl)
      | (obtain ⟨_, _, _, rfl, _⟩ := h; rfl)
      | (obtain ⟨_, _, _, _, rfl, _⟩ := h; rfl)
      | (obtain ⟨_, _, _, _, _, rfl, _⟩ := h; rfl)
      | (obtain ⟨_, _, _, _, _, _, rfl, _⟩ := h; rfl)
      | (obtain ⟨_, _, _, _, _, _, _, rfl, _⟩ := h; rfl)
      | (obtain ⟨_, _, _, _, _, _, _, _, rfl, _⟩ := h; rfl)
      | (obtain ⟨_, _, _, _, _, _, _, _, _, rfl, _⟩ := h; rfl)
      | (obtain ⟨_, _, _, _, _, _, _, _, _, _, rfl, _⟩ := h; rfl)
      | (obtain ⟨_, _, _, _, _, _, _, _, _, _, _, rfl, _⟩ := h; rfl)
      | (obtain ⟨_, _, _, _, _, _, _, _, _, _, _, _, rfl, _⟩ := h; rfl)
      | (obtain ⟨_, _, _, _, _, _, _, _, _, _, _, _, _, rfl, _⟩ := h; rfl)
      | (obtain ⟨_, _, _, _, _, _, _, _, _, _, _, _, _, _, rfl, _⟩ := h; rfl)
      | (obtain ⟨_, _, _, _, _, _, _, _, _, _, _, _, _, _, _, rfl, _⟩ := h; rfl)
      | (obtain ⟨_, _, _, _, _, _, _, _, _, _, _, _, _, _, _, _, rfl, _⟩ := h; rfl)
      | (obtain ⟨_, _, _, _, _, _, _, _, _, _, _, _, _, _, _, _, _, rfl, _⟩ := h; rfl)
      | (obtain ⟨_, _, _, _, _, _, _, _, _, _, _, _, _, _, _, _, _, _, rfl, _⟩ := h; rfl)
      | (obtain ⟨_, _, _, _, _, _, _, _, _, _, _, _, _, _, _, _, _, _, _, rfl, _⟩ := h; rfl)
  · obtain ⟨n, rfl, k⟩ := h
    refine ⟨_, (pss_one (ps_ret (d1 (ok_is_whole T) (hr.mono (by decide)) (by rfl) T.m_is_whole T.F_is_whole.kp T.b_is_whole passL (pa_cons (pv 0) (pa_cons pe_int (pa_cons (pe_glob (v := V.int 1000000000000000000) rfl T.g_LARGEST ⟨_, rfl⟩) pa_nil)))))), ?_⟩
    dsimp only [cxOf, st_1, st_2, st_3, st_4, st_5, st_6, List.length_cons, List.length_nil, List.replicate_succ, List.replicate_zero, Nat.reduceAdd, Nat.reduceSub]
    walk_at "gs"
    exact ⟨n, 1, _, rfl, k⟩
def sp_want_size : Sp := fun vs H Q _ => ∃ n : Int, vs = [.int n] ∧ (1 ≤ n ∧ n ≤ 1000000000000000000) ∧ Q .non H
theorem sc_want_size : FnScope ["thing"] ["thing"] (defScope s_want_size) :=
  ⟨rfl, rfl, rfl, by decide +kernel, rfl, by decide +kernel, by decide +kernel⟩
theorem ok_want_size {P : Program} {w : World} {K : PySem.W.Frag} {mg : Str → Option Value} {base : Heap} (T : Txt K mg) :
    FnG P w K mg base 4 T.a_want_size T.d_want_size ["thing"] sp_want_size := by
  refine okD T.F_want_size sc_want_size (fun vs H Q E h => ?_) (fun cdv A outer s H vs Q E hr h => ?_)
  · first
      | (obtain ⟨_, rfl, _⟩ := h; rfl)
      | (obtain ⟨_, _, rfl, _⟩ := h; rfl)
      | (obtain ⟨_, _, _, rfl, _⟩ := h; rfl)
      | (obtain ⟨_, _, _, _, rfl, _⟩ := h; rfl)
      | (obtain ⟨_, _, _, _, _, rfl, _⟩ := h; rfl)
      | (obtain ⟨_, _, _, _, _, _, rfl, _⟩ := h; rfl)
      | (obtain ⟨_, _, _, _, _, _, _, rfl, _⟩ := h; rfl)
      | (obtain ⟨_, _, _, _, _, _, _, _, rfl, _⟩ := h; rfl)
      | (obtain ⟨_, _, _, _, _, _, _, _, _, rfl, _⟩ := h; rfl)
      | (obtain ⟨_, _, _, _, _, _, _, _, _, _, rfl, _⟩ := h; rfl)
      | (obtain ⟨_, _, _, _, _, _, _, _, _, _, _, rfl, _⟩ := h; rfl)
      | (obtain ⟨_, _, _, _, _, _, _, _, _, _, _, _, rfl, _⟩ := h; rfl)
      | (obtain ⟨_, _, _, _, _, _, _, _, _, _, _, _, _, rfl, _⟩ := h; rfl)
      | (obtain ⟨_, _, _, _, _, _, _, _, _, _, _, _, _, _, rfl, _⟩ := h; rfl)
      | (obtain ⟨_, _, _, _, _, _, _, _, _, _, _, _, _, _, _, rfl, _⟩ := h; rfl)
      | (obtain ⟨_, _, _, _, _, _, _, _, _, _, _, _, _, _, _, _, rfl, _⟩ := h; rfl)
      | (obtain ⟨_, _, _, _, _, _, _, _, _, _, _, _, _, _, _, _, _, rfl, _⟩ := h; rfl)
      | (obtain ⟨_, _, _, _, _, _, _, _, _, _, _, _, _, _, _, _, _, _, rfl, _⟩ := h; rfl)
      | (obtain ⟨_, _, _, _, _, _, _, _, _, _, _, _, _, _, _, _, _, _, _, rfl, _⟩ := h; rfl)
  · obtain ⟨n, rfl, z, k⟩ := h
    refine ⟨_, (pss_one (ps_if (pt_not (pt_val (d1 (ok_is_size T) (hr.mono (by decide)) (by rfl) T.m_is_size T.F_is_size.kp T.b_is_size passL (pa_cons (pv 0) pa_nil)))) (pss_one ps_never) pss_nil)), ?_⟩
    dsimp only [cxOf, st_1, st_2, st_3, st_4, st_5, st_6, List.length_cons, List.length_nil, List.replicate_succ, List.replicate_zero, Nat.reduceAdd, Nat.reduceSub]
    walk_at "gs"
    refine ⟨n, rfl, ?_⟩
    walk_at "gs"
    refine i_decN (fun c => absurd z c) (fun _ => ?_)
    walk_at "gs"
    exact k
def sp_want_number : Sp := fun vs H Q _ => ∃ n : Int, vs = [.int n] ∧ Q .non H
theorem sc_want_number : FnScope ["thing"] ["thing"] (defScope s_want_number) :=
  ⟨rfl, rfl, rfl, by decide +kernel, rfl, by decide +kernel, by decide +kernel⟩
theorem ok_want_number {P : Program} {w : World} {K : PySem.W.Frag} {mg : Str → Option Value} {base : Heap} (T : Txt K mg) :
    FnG P w K mg base 2 T.a_want_number T.d_want_number ["thing"] sp_want_number := by
  refine okD T.F_want_number sc_want_number (fun vs H Q E h => ?_) (fun cdv A outer s H vs Q E hr h => ?_)
  · first
      | (obtain ⟨_, rfl, _⟩ := h; rfl)
      | (obtain ⟨_, _, rfl, _⟩ := h; rfl)
      | (obtain ⟨_, _, _, rfl, _⟩ := h; rfl)
      | (obtain ⟨_, _, _, _, rfl, _⟩ := h; rfl)
      | (obtain ⟨_, _, _, _, _, rfl, _⟩ := h; rfl)
      | (obtain ⟨_, _, _, _, _, _, rfl, _⟩ := h; rfl)
      | (obtain ⟨_, _, _, _, _, _, _, rfl, _⟩ := h; rfl)
      | (obtain ⟨_, _, _, _, _, _, _, _, rfl, _⟩ := h; rfl)
      | (obtain ⟨_, _, _, _, _, _, _, _, _, rfl, _⟩ := h; rfl)
      | (obtain ⟨_, _, _, _, _, _, _, _, _, _, rfl, _⟩ := h; rfl)
      | (obtain ⟨_, _, _, _, _, _, _, _, _, _, _, rfl, _⟩ := h; rfl)
      | (obtain ⟨_, _, _, _, _, _, _, _, _, _, _, _, rfl, _⟩ := h; rfl)
      | (obtain ⟨_, _, _, _, _, _, _, _, _, _, _, _, _, rfl, _⟩ := h; rfl)
      | (obtain ⟨_, _, _, _, _, _, _, _, _, _, _, _, _, _, rfl, _⟩ := h; rfl)
      | (obtain ⟨_, _, _, _, _, _, _, _, _, _, _, _, _, _, _, rfl, _⟩ := h; rfl)
      | (obtain ⟨_, _, _, _, _, _, _, _, _, _, _, _, _, _, _, _, rfl, _⟩ := h; rfl)
      | (obtain ⟨_, _, _, _, _, _, _, _, _, _, _, _, _, _, _, _, _, rfl, _⟩ := h; rfl)
      | (obtain ⟨_, _, _, _, _, _, _, _, _, _, _, _, _, _, _, _, _, _, rfl, _⟩ := h; rfl)
      | (obtain ⟨_, _, _, _, _, _, _, _, _, _, _, _, _, _, _, _, _, _, _, rfl, _⟩ := h; rfl)
  · obtain ⟨n, rfl, k⟩ := h
    refine ⟨_, (pss_one (ps_if (pt_not (pt_val (d1 (ok_is_number T) (hr.mono (by decide)) (by rfl) T.m_is_number T.F_is_number.kp T.b_is_number passL (pa_cons (pv 0) pa_nil)))) (pss_one ps_never) pss_nil)), ?_⟩
    dsimp only [cxOf, st_1, st_2, st_3, st_4, st_5, st_6, List.length_cons, List.length_nil, List.replicate_succ, List.replicate_zero, Nat.reduceAdd, Nat.reduceSub]
    walk_at "gs"
    refine ⟨n, rfl, ?_⟩
    walk_at "gs"
    exact k
def sp_want_cell : Sp := fun vs H Q _ => ∃ c n : Int, vs = [.int c, .int n] ∧ (0 ≤ c ∧ c < n) ∧ Q .non H
theorem sc_want_cell : FnScope ["thing", "size"] ["thing", "size"] (defScope s_want_cell) :=
  ⟨rfl, rfl, rfl, by decide +kernel, rfl, by decide +kernel, by decide +kernel⟩
theorem ok_want_cell {P : Program} {w : World} {K : PySem.W.Frag} {mg : Str → Option Value} {base : Heap} (T : Txt K mg) :
    FnG P w K mg base 3 T.a_want_cell T.d_want_cell ["thing", "size"] sp_want_cell := by
  refine okD T.F_want_cell sc_want_cell (fun vs H Q E h => ?_) (fun cdv A outer s H vs Q E hr h => ?_)
  · first
      | (obtain ⟨_, rfl, _⟩ := h; rfl)
      | (obtain ⟨_, _, rfl, _⟩ := h; rfl)
      | (obtain ⟨_, _, _, rfl, _⟩ := h; rfl)
      | (obtain ⟨_, _, _, _, rfl, _⟩ := h; rfl)
      | (obtain ⟨_, _, _, _, _, rfl, _⟩ := h; rfl)
      | (obtain ⟨_, _, _, _, _, _, rfl, _⟩ := h; rfl)
      | (obtain ⟨_, _, _, _, _, _, _, rfl, _⟩ := h; rfl)
      | (obtain ⟨_, _, _, _, _, _, _, _, rfl, _⟩ := h; rfl)
      | (obtain ⟨_, _, _, _, _, _, _, _, _, rfl, _⟩ := h; rfl)
      | (obtain ⟨_, _, _, _, _, _, _, _, _, _, rfl, _⟩ := h; rfl)
      | (obtain ⟨_, _, _, _, _, _, _, _, _, _, _, rfl, _⟩ := h; rfl)
      | (obtain ⟨_, _, _, _, _, _, _, _, _, _, _, _, rfl, _⟩ := h; rfl)
      | (obtain ⟨_, _, _, _, _, _, _, _, _, _, _, _, _, rfl, _⟩ := h; rfl)
      | (obtain ⟨_, _, _, _, _, _, _, _, _, _, _, _, _, _, rfl, _⟩ := h; rfl)
      | (obtain ⟨_, _, _, _, _, _, _, _, _, _, _, _, _, _, _, rfl, _⟩ := h; rfl)
      | (obtain ⟨_, _, _, _, _, _, _, _, _, _, _, _, _, _, _, _, rfl, _⟩ := h; rfl)
      | (obtain ⟨_, _, _, _, _, _, _, _, _, _, _, _, _, _, _, _, _, rfl, _⟩ := h; rfl)
      | (obtain ⟨_, _, _, _, _, _, _, _, _, _, _, _, _, _, _, _, _, _, rfl, _⟩ := h; rfl)
      | (obtain ⟨_, _, _, _, _, _, _, _, _, _, _, _, _, _, _, _, _, _, _, rfl, _⟩ := h; rfl)
  · obtain ⟨c, n, rfl, z, k⟩ := h
    refine ⟨_, (pss_one (ps_if (pt_not (pt_val (d1 (ok_is_whole T) (hr.mono (by decide)) (by rfl) T.m_is_whole T.F_is_whole.kp T.b_is_whole passL (pa_cons (pv 0) (pa_cons pe_int (pa_cons (pe_op op_sub (pv 1) pe_int) pa_nil)))))) (pss_one ps_never) pss_nil)), ?_⟩
    dsimp only [cxOf, st_1, st_2, st_3, st_4, st_5, st_6, List.length_cons, List.length_nil, List.replicate_succ, List.replicate_zero, Nat.reduceAdd, Nat.reduceSub]
    walk_at "gs"
    refine ⟨c, 0, n - 1, rfl, ?_⟩
    walk_at "gs"
    refine i_decN (fun d => absurd (by omega) d) (fun _ => ?_)
    walk_at "gs"
    exact k
def sp_want_stretch : Sp := fun vs H Q _ => ∃ b e n : Int, vs = [.int b, .int e, .int n] ∧ (0 ≤ b ∧ b ≤ e ∧ e ≤ n) ∧ Q .non H
theorem sc_want_stretch : FnScope ["begin", "end", "size"] ["begin", "end", "size"] (defScope s_want_stretch) :=
  ⟨rfl, rfl, rfl, by decide +kernel, rfl, by decide +kernel, by decide +kernel⟩
theorem ok_want_stretch {P : Program} {w : World} {K : PySem.W.Frag} {mg : Str → Option Value} {base : Heap} (T : Txt K mg) :
    FnG P w K mg base 3 T.a_want_stretch T.d_want_stretch ["begin", "end", "size"] sp_want_stretch := by
  refine okD T.F_want_stretch sc_want_stretch (fun vs H Q E h => ?_) (fun cdv A outer s H vs Q E hr h => ?_)
  · first
      | (obtain ⟨_, rfl, _⟩ := h; rfl)
      | (obtain ⟨_, _, rfl, _⟩ := h; rfl)
      | (obtain ⟨_, _, _, rfl, _⟩ := h; rfl)
      | (obtain ⟨_, _, _, _, rfl, _⟩ := h; rfl)
      | (obtain ⟨_, _, _, _, _, rfl, _⟩ := h; rfl)
      | (obtain ⟨_, _, _, _, _, _, rfl, _⟩ := h; rfl)
      | (obtain ⟨_, _, _, _, _, _, _, rfl, _⟩ := h; rfl)
      | (obtain ⟨_, _, _, _, _, _, _, _, rfl, _⟩ := h; rfl)
      | (obtain ⟨_, _, _, _, _, _, _, _, _, rfl, _⟩ := h; rfl)
      | (obtain ⟨_, _, _, _, _, _, _, _, _, _, rfl, _⟩ := h; rfl)
      | (obtain ⟨_, _, _, _, _, _, _, _, _, _, _, rfl, _⟩ := h; rfl)
      | (obtain ⟨_, _, _, _, _, _, _, _, _, _, _, _, rfl, _⟩ := h; rfl)
      | (obtain ⟨_, _, _, _, _, _, _, _, _, _, _, _, _, rfl, _⟩ := h; rfl)
      | (obtain ⟨_, _, _, _, _, _, _, _, _, _, _, _, _, _, rfl, _⟩ := h; rfl)
      | (obtain ⟨_, _, _, _, _, _, _, _, _, _, _, _, _, _, _, rfl, _⟩ := h; rfl)
      | (obtain ⟨_, _, _, _, _, _, _, _, _, _, _, _, _, _, _, _, rfl, _⟩ := h; rfl)
      | (obtain ⟨_, _, _, _, _, _, _, _, _, _, _, _, _, _, _, _, _, rfl, _⟩ := h; rfl)
      | (obtain ⟨_, _, _, _, _, _, _, _, _, _, _, _, _, _, _, _, _, _, rfl, _⟩ := h; rfl)
      | (obtain ⟨_, _, _, _, _, _, _, _, _, _, _, _, _, _, _, _, _, _, _, rfl, _⟩ := h; rfl)
  · obtain ⟨b, e, n, rfl, z, k⟩ := h
    refine ⟨_, (pss_one (ps_if (PW.pt (pw_or (pt_not (pt_val (d1 (ok_is_whole T) (hr.mono (by decide)) (by rfl) T.m_is_whole T.F_is_whole.kp T.b_is_whole passL (pa_cons (pv 0) (pa_cons pe_int (pa_cons (pv 2) pa_nil)))))) (pw_or1 (pt_not (pt_val (d1 (ok_is_whole T) (hr.mono (by decide)) (by rfl) T.m_is_whole T.F_is_whole.kp T.b_is_whole passL (pa_cons (pv 1) (pa_cons (pv 0) (pa_cons (pv 2) pa_nil))))))))) (pss_one ps_never) pss_nil)), ?_⟩
    dsimp only [cxOf, st_1, st_2, st_3, st_4, st_5, st_6, List.length_cons, List.length_nil, List.replicate_succ, List.replicate_zero, Nat.reduceAdd, Nat.reduceSub]
    walk_at "gs"
    refine ⟨b, 0, n, rfl, ?_⟩
    walk_at "gs"
    refine i_decN (fun d => absurd (by omega) d) (fun _ => ?_)
    walk_at "gs"
    refine ⟨e, b, n, rfl, ?_⟩
    walk_at "gs"
    refine i_decN (fun d => absurd (by omega) d) (fun _ => ?_)
    walk_at "gs"
    exact k

/-! ### cutting out -/
def sp_cut_out (K : PySem.W.Frag) : Sp := fun vs H Q _ => ∃ (a : Addr) (b e : Int) (ps : List (Int × Int)),
  vs = [.ref a, .int b, .int e] ∧ Dp K H (.ref a) (.list (ps.map d2)) ∧ ps.length ≤ 100000 ∧
  ∀ l H', Fr H l → Kp [] H H' → LD K H' l ((cut b e ps).map d2) → Q (.ref l) H'
theorem sc_cut_out : FnScope ["pairs", "begin", "end", "found", "at", "many", "number", "low", "high"] ["pairs", "begin", "end"] (defScope s_cut_out) :=
  ⟨rfl, rfl, rfl, by decide +kernel, rfl, by decide +kernel, by decide +kernel⟩
theorem ok_cut_out {P : Program} {w : World} {K : PySem.W.Frag} {mg : Str → Option Value} {base : Heap} (T : Txt K mg) :
    FnG P w K mg base 1 T.a_cut_out T.d_cut_out ["pairs", "begin", "end"] (sp_cut_out K) := by
  refine okD T.F_cut_out sc_cut_out (fun vs H Q E h => ?_) (fun cdv A outer s H vs Q E hr h => ?_)
  · first
      | (obtain ⟨_, rfl, _⟩ := h; rfl)
      | (obtain ⟨_, _, rfl, _⟩ := h; rfl)
      | (obtain ⟨_, _, _, rfl, _⟩ := h; rfl)
      | (obtain ⟨_, _, _, _, rfl, _⟩ := h; rfl)
      | (obtain ⟨_, _, _, _, _, rfl, _⟩ := h; rfl)
      | (obtain ⟨_, _, _, _, _, _, rfl, _⟩ := h; rfl)
      | (obtain ⟨_, _, _, _, _, _, _, rfl, _⟩ := h; rfl)
      | (obtain ⟨_, _, _, _, _, _, _, _, rfl, _⟩ := h; rfl)
      | (obtain ⟨_, _, _, _, _, _, _, _, _, rfl, _⟩ := h; rfl)
      | (obtain ⟨_, _, _, _, _, _, _, _, _, _, rfl, _⟩ := h; rfl)
      | (obtain ⟨_, _, _, _, _, _, _, _, _, _, _, rfl, _⟩ := h; rfl)
      | (obtain ⟨_, _, _, _, _, _, _, _, _, _, _, _, rfl, _⟩ := h; rfl)
      | (obtain ⟨_, _, _, _, _, _, _, _, _, _, _, _, _, rfl, _⟩ := h; rfl)
      | (obtain ⟨_, _, _, _, _, _, _, _, _, _, _, _, _, _, rfl, _⟩ := h; rfl)
      | (obtain ⟨_, _, _, _, _, _, _, _, _, _, _, _, _, _, _, rfl, _⟩ := h; rfl)
      | (obtain ⟨_, _, _, _, _, _, _, _, _, _, _, _, _, _, _, _, rfl, _⟩ := h; rfl)
      | (obtain ⟨_, _, _, _, _, _, _, _, _, _, _, _, _, _, _, _, _, rfl, _⟩ := h; rfl)
      | (obtain ⟨_, _, _, _, _, _, _, _, _, _, _, _, _, _, _, _, _, _, rfl, _⟩ := h; rfl)
      | (obtain ⟨_, _, _, _, _, _, _, _, _, _, _, _, _, _, _, _, _, _, _, rfl, _⟩ := h; rfl)
  · obtain ⟨a, b, e, ps, rfl, ha, hps, k⟩ := h
    cases ha
    rename_i xs hsq hall
    have hlen := dpa_len hall
    rw [List.length_map] at hlen
    have cl_Memory := T.cl_Memory
    have na_Memory_pairs := T.na_Memory_pairs
    have na_Memory_wide := T.na_Memory_wide
    refine ⟨_, (pss_cons (ps_set (i := 3) sc_cut_out.nd rfl (Or.inl rfl) (pe_lst pa_nil))
      (pss_cons (ps_set (i := 4) sc_cut_out.nd rfl (Or.inl rfl) pe_int)
      (pss_cons (ps_for (passes_of rfl) rfl (k_plist (K := K) rfl (pv 0)) (k_gtup (K := K) 2 rfl rfl (pgs_cons (pg_name (i := 5) sc_cut_out.nd rfl (Or.inl rfl)) (pgs_cons (pg_name (i := 6) sc_cut_out.nd rfl (Or.inl rfl)) pgs_nil)))
      (pss_cons (ps_par (i := 7) (j := 8) (by rfl) sc_cut_out.nd rfl rfl (by decide) rfl rfl (pa_cons (pe_callB (c_max2 rfl) (by rfl) T.n_max (by decide +kernel) (pa_cons (pv 1) (pa_cons (pv 4) pa_nil))) (pa_cons (pe_callB (c_min2 rfl) (by rfl) T.n_min (by decide +kernel) (pa_cons (pv 2) (pa_cons (pe_op (k_add (K := K) rfl) (pv 4) (pv 5)) pa_nil))) pa_nil)) (by rfl))
      (pss_cons (ps_if (pt_cmpR op_lt (pv 7) (pv 8) (nomark _)) (pss_one (ps_expr (pe_bm PySem.F.plainAttrs_list PySem.F.slot_list_append PySem.F.type_list_append mt_append (pv 3) (pa_cons (pe_tup (pa_cons (pe_op op_sub (pv 8) (pv 7)) (pa_cons (pv 6) pa_nil))) pa_nil)))) pss_nil)
      (pss_one (ps_aug (i := 4) sc_cut_out.nd rfl (Or.inl rfl) (pv 5) ip_add)))))
      (pss_one (ps_ret (pv 3)))))), ?_⟩
    dsimp only [cxOf, st_1, st_2, st_3, st_4, st_5, st_6, List.length_cons, List.length_nil, List.replicate_succ, List.replicate_zero, Nat.reduceAdd, Nat.reduceSub]
    walk_at "gs"
    refine i_new fun l hl => ?_
    walk_at "gs"
    refine i_each ((Kp.new hl).seqL (ws := []) List.not_mem_nil hsq) (fun i σ H' => ∃ u v w x, σ = [some (.ref a), some (.int b), some (.int e), some (.ref l), some (.int (wide (ps.take i))), u, v, w, x] ∧ Kp [] H H' ∧
      LD K H' l ((cut b e (ps.take i)).map d2)) ?_ ?_ ?_ ?_
    · exact ⟨none, none, none, none, rfl, Kp.new hl, ⟨[], upd_same, .nil⟩⟩
    · rintro i σ H' _ ⟨u, v, w, x, rfl, kp, ld⟩
      exact kp.seqL List.not_mem_nil hsq
    · rintro i x σ H' hx ⟨u, v, w, y, rfl, kp, ld⟩
      obtain ⟨d, hd, hdp⟩ := dpa_getV hall hx
      obtain ⟨p, hp, rfl⟩ := map_get hd
      obtain ⟨pa, rfl, hpt⟩ := dp_pair hdp
      replace hpt := kp.seqT hpt
      obtain ⟨vs, hvs, hall2⟩ := id ld
      have hvl := dpa_len hall2
      rw [List.length_map] at hvl
      have hcl := cut_len b e (ps.take i)
      rw [List.length_take] at hcl
      have hil : i < ps.length := (List.getElem?_eq_some_iff.mp hp).1
      walk_at "gs"
      refine i_dec (fun c => ?_) (fun c => ?_)
      · walk_at "gs"
        refine i_new fun t ht => ?_
        walk_at "gs"
        rw [wide_take hp, cut_take hp, if_pos c, List.map_append]
        refine ⟨_, _, _, _, rfl, by walk_at "g_kp", ?_⟩
        exact ld_push (ws := [l]) (H0 := H') (by walk_at "g_kp") hall2 (imms_d2 _) upd_same (dp_mk2 (m := min e (wide (ps.take i) + p.1) - max b (wide (ps.take i))) (n := p.2) (by walk_at "g_st"))
      · walk_at "gs"
        rw [wide_take hp, cut_take hp, if_neg c, List.append_nil]
        exact ⟨_, _, _, _, rfl, kp, ld⟩
    · rintro σ H' ⟨u, v, w, x, rfl, kp, ld⟩
      walk_at "gs"
      rw [List.take_of_length_le (by omega)] at ld
      exact k l H' hl kp ld

/-! ### comprehensions that change nothing -/
theorem dpa_tail {K : PySem.W.Frag} {H : Hp} : ∀ {ds : List PyData} {vs : List V}, DpAll K H vs ds → DpAll K H vs.tail ds.tail
  | [], _, h => by cases h; exact .nil
  | _ :: _, _, h => by
    cases h with
    | cons _ h2 => exact h2
section
variable {K : PySem.W.Frag} {σ : L2.St} {H : Hp} {Q : VK} {a b : Addr} {xs ys us : List V} {g : TG} {te : TE} {vs : List Nat} {ds : List PyData}
theorem i_mapL (hs : SqL K H a xs) (ys : List V) (hl : ys.length = xs.length) (hz : xs.length ≤ 1000000)
    (st : ∀ (D : Addr) (i : Nat) (x y : V) (H' : Hp) (Q' : VK), Fr H D → xs[i]? = some x → ys[i]? = some y → Kp [] H H' → (∀ H4, Kp [] H' H4 → Q' y H4) →
      g x (wipe σ vs) H' fun σ2 H2 => wipe σ2 vs = wipe σ vs ∧ te σ2 H2 Q')
    (hd : ∀ D H', Fr H D → Kp [] H H' → H' D = some (.lst ys) → Q (.ref D) H') : LcL K (.ref a) g tYes te vs σ H Q := by
  refine i_elts hs (fun D i H' => Kp [] H H' ∧ H' D = some (.lst (ys.take i))) (fun D fD => ⟨Kp.new fD, by rw [List.take_zero]; exact upd_same⟩)
    (fun D i H' _ _ z => z.1.seqL not_nil hs) ?_ ?_
  · rintro D i x H' fD hx ⟨k, e⟩
    have hi := (List.getElem?_eq_some_iff.mp hx).1
    obtain ⟨y, hy⟩ : ∃ y, ys[i]? = some y := ⟨_, List.getElem?_eq_getElem (by omega)⟩
    have q := st D i x y H' (fun y' H4 => ∃ acc, H4 D = some (.lst acc) ∧ acc.length < sizeLine ∧
      (Kp [] H (upd H4 D (.lst (acc ++ [y']))) ∧ upd H4 D (.lst (acc ++ [y'])) D = some (.lst (ys.take (i + 1))))) fD hx hy k (fun H4 k4 => by
        refine ⟨_, k4.at_ _ _ e not_nil, small_sz (by rw [List.length_take]; omega), Kp.upd (Kp.trans k k4) fD, ?_⟩
        rw [List.take_add_one, hy]
        exact upd_same)
    exact q
  · rintro D H' fD ⟨k, e⟩
    rw [List.take_of_length_le (by omega)] at e
    exact hd D H' fD k e
theorem i_mapD (hs : SqL K H a xs) (ds : List PyData) (hi : imms ds = true) (hl : ds.length = xs.length) (hz : xs.length ≤ 1000000)
    (st : ∀ (D : Addr) (i : Nat) (x : V) (d : PyData) (H' : Hp) (Q' : VK), Fr H D → xs[i]? = some x → ds[i]? = some d → Kp [] H H' → (∀ y H4, Kp [] H' H4 → Dp K H4 y d → Q' y H4) →
      g x (wipe σ vs) H' fun σ2 H2 => wipe σ2 vs = wipe σ vs ∧ te σ2 H2 Q')
    (hd : ∀ D H', Fr H D → Kp [] H H' → LD K H' D ds → Q (.ref D) H') : LcL K (.ref a) g tYes te vs σ H Q := by
  have imt : ∀ (l : List PyData) i, imms l = true → imms (l.take i) = true := by
    intro l
    induction l with
    | nil => intro i h; rw [List.take_nil]; rfl
    | cons d l ih =>
      intro i h
      simp only [imms, Bool.and_eq_true] at h
      cases i with
      | zero => rfl
      | succ i =>
        rw [List.take_succ_cons]
        simp only [imms, Bool.and_eq_true]
        exact ⟨h.1, ih i h.2⟩
  have img : ∀ (l : List PyData) (i : Nat) (d : PyData), imms l = true → l[i]? = some d → imm d = true := by
    intro l
    induction l with
    | nil => intro i d _ e; cases e
    | cons d0 l ih =>
      intro i d h e
      simp only [imms, Bool.and_eq_true] at h
      cases i with
      | zero => cases e; exact h.1
      | succ i => exact ih i d h.2 e
  refine i_elts hs (fun D i H' => Kp [] H H' ∧ LD K H' D (ds.take i)) (fun D fD => ⟨Kp.new fD, [], upd_same, by rw [List.take_zero]; exact .nil⟩)
    (fun D i H' _ _ z => z.1.seqL not_nil hs) ?_ ?_
  · rintro D i x H' fD hx ⟨k, ld⟩
    have hi2 := (List.getElem?_eq_some_iff.mp hx).1
    obtain ⟨d, hd2⟩ : ∃ d, ds[i]? = some d := ⟨_, List.getElem?_eq_getElem (by omega)⟩
    have q := st D i x d H' (fun y' H4 => ∃ acc, H4 D = some (.lst acc) ∧ acc.length < sizeLine ∧
      (Kp [] H (upd H4 D (.lst (acc ++ [y']))) ∧ LD K (upd H4 D (.lst (acc ++ [y']))) D (ds.take (i + 1)))) fD hx hd2 k (fun y H4 k4 hy => by
        obtain ⟨acc, e, ha⟩ := ld.kp k4 (imt _ _ hi) not_nil
        have hl2 := dpa_len ha
        rw [List.length_take] at hl2
        refine ⟨acc, e, small_sz (by omega), Kp.upd (Kp.trans k k4) fD, ?_⟩
        rw [List.take_add_one, hd2]
        exact ld_app ha e (imt _ _ hi) hy (img _ _ _ hi hd2))
    exact q
  · rintro D H' fD ⟨k, ld⟩
    rw [List.take_of_length_le (by omega)] at ld
    exact hd D H' fD k ld
theorem i_mapZ (hx : SqL K H a xs) (hy : SqL K H b us) (ys : List V) (hl : ys.length = min xs.length us.length) (hz : ys.length ≤ 1000000)
    (st : ∀ (D : Addr) (i : Nat) (x u y : V) (T : Addr) (H' : Hp) (Q' : VK), Fr H D → xs[i]? = some x → us[i]? = some u → ys[i]? = some y → Kp [] H H' → Fr H' T → (∀ H4, Kp [] H' H4 → Q' y H4) →
      g (.ref T) (wipe σ vs) (upd H' T (.tup [x, u])) fun σ2 H2 => wipe σ2 vs = wipe σ vs ∧ te σ2 H2 Q')
    (hd : ∀ D H', Fr H D → Kp [] H H' → H' D = some (.lst ys) → Q (.ref D) H') : LcZ K [.ref a, .ref b] g tYes te vs σ H Q := by
  refine i_eltz hx hy (fun D i H' => Kp [] H H' ∧ H' D = some (.lst (ys.take i))) (fun D fD => ⟨Kp.new fD, by rw [List.take_zero]; exact upd_same⟩)
    (fun D i H' _ z => ⟨z.1.seqL not_nil hx, z.1.seqL not_nil hy⟩) ?_ ?_
  · rintro D i x u T H' fD hx2 hu ⟨k, e⟩ fT
    have h1 := (List.getElem?_eq_some_iff.mp hx2).1
    have h2 := (List.getElem?_eq_some_iff.mp hu).1
    obtain ⟨y, hy⟩ : ∃ y, ys[i]? = some y := ⟨_, List.getElem?_eq_getElem (by omega)⟩
    have q := st D i x u y T H' (fun y' H4 => ∃ acc, H4 D = some (.lst acc) ∧ acc.length < sizeLine ∧
      (Kp [] H (upd H4 D (.lst (acc ++ [y']))) ∧ upd H4 D (.lst (acc ++ [y'])) D = some (.lst (ys.take (i + 1))))) fD hx2 hu hy k fT (fun H4 k4 => by
        refine ⟨_, k4.at_ _ _ e not_nil, small_sz (by rw [List.length_take]; omega), Kp.upd (Kp.trans k k4) fD, ?_⟩
        rw [List.take_add_one, hy]
        exact upd_same)
    exact q
  · rintro D H' fD ⟨k, e⟩
    rw [List.take_of_length_le (by omega)] at e
    exact hd D H' fD k e
end

/-- no two neighbours of one number -/
def apart : List (Int × Int) → Prop
  | [] => True
  | [_] => True
  | p :: q :: t => p.2 ≠ q.2 ∧ apart (q :: t)
theorem apart_wst (f : List (Int × Int)) (p : Int × Int) (h : apart f) : apart (wst f p) := by
  cases f with
  | nil => trivial
  | cons q t =>
    unfold wst
    simp only
    split
    · rename_i c
      cases t with
      | nil => trivial
      | cons r u => exact ⟨by rw [← c]; exact h.1, h.2⟩
    · rename_i c
      exact ⟨fun z => c z.symm, h⟩
theorem apart_wr : ∀ ps : List (Int × Int), apart (wr ps)
  | [] => trivial
  | p :: ps => by
    unfold wr
    split
    · exact apart_wst _ _ (apart_wr ps)
    · exact apart_wr ps
theorem apart_get : ∀ (ps : List (Int × Int)) (i : Nat) (p q : Int × Int), apart ps → ps[i]? = some p → ps.tail[i]? = some q → p.2 ≠ q.2
  | [], _, _, _, _, e, _ => by cases e
  | [_], i, _, _, _, _, e => by simp at e
  | a :: b :: t, 0, p, q, h, e1, e2 => by
    cases e1
    cases e2
    exact h.1
  | a :: b :: t, i + 1, p, q, h, e1, e2 => apart_get (b :: t) i p q h.2 e1 e2
theorem rep_get {n i : Nat} {v y : V} (h : (List.replicate n v)[i]? = some y) : y = v := by
  rw [List.getElem?_replicate] at h
  split at h
  · exact (Option.some.inj h).symm
  · cases h

def sp_is_run (K : PySem.W.Frag) : Sp := fun vs H Q _ => ∃ (t : Addr) (n v : Int), vs = [.ref t] ∧ SqT K H t [.int n, .int v] ∧ 0 < n ∧ Q (.bl true) H
theorem sc_is_run : FnScope ["thing", "many", "number"] ["thing"] (defScope s_is_run) :=
  ⟨rfl, rfl, rfl, by decide +kernel, rfl, by decide +kernel, by decide +kernel⟩
theorem ok_is_run {P : Program} {w : World} {K : PySem.W.Frag} {mg : Str → Option Value} {base : Heap} (T : Txt K mg) :
    FnG P w K mg base 2 T.a_is_run T.d_is_run ["thing"] (sp_is_run K) := by
  refine okD T.F_is_run sc_is_run (fun vs H Q E h => ?_) (fun cdv A outer s H vs Q E hr h => ?_)
  · first
      | (obtain ⟨_, rfl, _⟩ := h; rfl)
      | (obtain ⟨_, _, rfl, _⟩ := h; rfl)
      | (obtain ⟨_, _, _, rfl, _⟩ := h; rfl)
      | (obtain ⟨_, _, _, _, rfl, _⟩ := h; rfl)
      | (obtain ⟨_, _, _, _, _, rfl, _⟩ := h; rfl)
      | (obtain ⟨_, _, _, _, _, _, rfl, _⟩ := h; rfl)
      | (obtain ⟨_, _, _, _, _, _, _, rfl, _⟩ := h; rfl)
      | (obtain ⟨_, _, _, _, _, _, _, _, rfl, _⟩ := h; rfl)
      | (obtain ⟨_, _, _, _, _, _, _, _, _, rfl, _⟩ := h; rfl)
      | (obtain ⟨_, _, _, _, _, _, _, _, _, _, rfl, _⟩ := h; rfl)
      | (obtain ⟨_, _, _, _, _, _, _, _, _, _, _, rfl, _⟩ := h; rfl)
      | (obtain ⟨_, _, _, _, _, _, _, _, _, _, _, _, rfl, _⟩ := h; rfl)
      | (obtain ⟨_, _, _, _, _, _, _, _, _, _, _, _, _, rfl, _⟩ := h; rfl)
      | (obtain ⟨_, _, _, _, _, _, _, _, _, _, _, _, _, _, rfl, _⟩ := h; rfl)
      | (obtain ⟨_, _, _, _, _, _, _, _, _, _, _, _, _, _, _, rfl, _⟩ := h; rfl)
      | (obtain ⟨_, _, _, _, _, _, _, _, _, _, _, _, _, _, _, _, rfl, _⟩ := h; rfl)
      | (obtain ⟨_, _, _, _, _, _, _, _, _, _, _, _, _, _, _, _, _, rfl, _⟩ := h; rfl)
      | (obtain ⟨_, _, _, _, _, _, _, _, _, _, _, _, _, _, _, _, _, _, rfl, _⟩ := h; rfl)
      | (obtain ⟨_, _, _, _, _, _, _, _, _, _, _, _, _, _, _, _, _, _, _, rfl, _⟩ := h; rfl)
  · obtain ⟨t, n, v, rfl, hT, hn, k⟩ := h
    refine ⟨_, (pss_cons (ps_if (PW.pt (pw_or (pt_not (pt_val (pe_callB (k_isi (K := K) rfl) (by rfl) T.n_isinstance (by decide +kernel) (pa_cons (pv 0) (pa_cons (pe_bltn (v := .ty "tuple") (by rfl) T.n_tuple (by decide +kernel) rfl) pa_nil))))) (pw_or1 (pt_cmpR (k_ne (K := K) rfl hr.r.units) (pe_callB (k_len (K := K) rfl) (by rfl) T.n_len (by decide +kernel) (pa_cons (pv 0) pa_nil)) pe_int (nomark _))))) (pss_one (ps_ret pe_bl)) pss_nil)
      (pss_cons (ps_asg (pv 0) (k_gtup (K := K) 2 rfl rfl (pgs_cons (pg_name (i := 1) sc_is_run.nd rfl (Or.inl rfl)) (pgs_cons (pg_name (i := 2) sc_is_run.nd rfl (Or.inl rfl)) pgs_nil))))
      (pss_one (ps_ret (pe_and (d1 (ok_is_number T) (hr.mono (by decide)) (by rfl) T.m_is_number T.F_is_number.kp T.b_is_number passL (pa_cons (pv 1) pa_nil)) (pe_and (pe_cmpR op_gt (pv 1) pe_int (nomark _)) (pe_one (d1 (ok_is_number T) (hr.mono (by decide)) (by rfl) T.m_is_number T.F_is_number.kp T.b_is_number passL (pa_cons (pv 2) pa_nil))))))))), ?_⟩
    dsimp only [cxOf, st_1, st_2, st_3, st_4, st_5, st_6, List.length_cons, List.length_nil, List.replicate_succ, List.replicate_zero, Nat.reduceAdd, Nat.reduceSub]
    walk_at "gs"
    refine i_isD (dp_mk2 hT) (show kitB "tuple" "tuple" = some true by decide +kernel) ?_
    walk_at "gs"
    refine i_decN (fun z => absurd rfl z) (fun _ => ?_)
    walk_at "gs"
    refine ⟨n, rfl, ?_⟩
    walk_at "gs"
    refine i_dec (fun _ => ?_) (fun z => absurd hn z)
    walk_at "gs"
    exact ⟨v, rfl, k⟩
def sp_are_runs (K : PySem.W.Frag) : Sp := fun vs H Q _ => ∃ (l : Addr) (ps : List (Int × Int)) (n : Int), vs = [.ref l, .int n] ∧ Dp K H (.ref l) (.list (ps.map d2)) ∧
  (∀ q ∈ ps, 0 < q.1) ∧ apart ps ∧ ps.length ≤ 100000 ∧ wide ps = n ∧ ∀ H', Kp [] H H' → Q (.bl true) H'
theorem all_true (n : Nat) : ((List.replicate n true).all id) = true := by
  rw [List.all_eq_true]
  intro b hb
  rw [(List.mem_replicate.mp hb).2]
  rfl
theorem any_false (n : Nat) : ((List.replicate n false).any id) = false := by
  rw [List.any_eq_false]
  intro b hb
  rw [(List.mem_replicate.mp hb).2]
  simp
theorem sc_are_runs : FnScope ["thing", "size", "one", "other", "many", "number"] ["thing", "size"] (defScope s_are_runs) :=
  ⟨rfl, rfl, rfl, by decide +kernel, rfl, by decide +kernel, by decide +kernel⟩
theorem ok_are_runs {P : Program} {w : World} {K : PySem.W.Frag} {mg : Str → Option Value} {base : Heap} (T : Txt K mg) :
    FnG P w K mg base 3 T.a_are_runs T.d_are_runs ["thing", "size"] (sp_are_runs K) := by
  refine okD T.F_are_runs sc_are_runs (fun vs H Q E h => ?_) (fun cdv A outer s H vs Q E hr h => ?_)
  · first
      | (obtain ⟨_, rfl, _⟩ := h; rfl)
      | (obtain ⟨_, _, rfl, _⟩ := h; rfl)
      | (obtain ⟨_, _, _, rfl, _⟩ := h; rfl)
      | (obtain ⟨_, _, _, _, rfl, _⟩ := h; rfl)
      | (obtain ⟨_, _, _, _, _, rfl, _⟩ := h; rfl)
      | (obtain ⟨_, _, _, _, _, _, rfl, _⟩ := h; rfl)
      | (obtain ⟨_, _, _, _, _, _, _, rfl, _⟩ := h; rfl)
      | (obtain ⟨_, _, _, _, _, _, _, _, rfl, _⟩ := h; rfl)
      | (obtain ⟨_, _, _, _, _, _, _, _, _, rfl, _⟩ := h; rfl)
      | (obtain ⟨_, _, _, _, _, _, _, _, _, _, rfl, _⟩ := h; rfl)
      | (obtain ⟨_, _, _, _, _, _, _, _, _, _, _, rfl, _⟩ := h; rfl)
      | (obtain ⟨_, _, _, _, _, _, _, _, _, _, _, _, rfl, _⟩ := h; rfl)
      | (obtain ⟨_, _, _, _, _, _, _, _, _, _, _, _, _, rfl, _⟩ := h; rfl)
      | (obtain ⟨_, _, _, _, _, _, _, _, _, _, _, _, _, _, rfl, _⟩ := h; rfl)
      | (obtain ⟨_, _, _, _, _, _, _, _, _, _, _, _, _, _, _, rfl, _⟩ := h; rfl)
      | (obtain ⟨_, _, _, _, _, _, _, _, _, _, _, _, _, _, _, _, rfl, _⟩ := h; rfl)
      | (obtain ⟨_, _, _, _, _, _, _, _, _, _, _, _, _, _, _, _, _, rfl, _⟩ := h; rfl)
      | (obtain ⟨_, _, _, _, _, _, _, _, _, _, _, _, _, _, _, _, _, _, rfl, _⟩ := h; rfl)
      | (obtain ⟨_, _, _, _, _, _, _, _, _, _, _, _, _, _, _, _, _, _, _, rfl, _⟩ := h; rfl)
  · obtain ⟨l, ps, n, rfl, hl, hpos, hap, hps, hw, k⟩ := h
    have hD := hl
    cases hl
    rename_i xs hsq hall
    have hxl := dpa_len hall
    rw [List.length_map] at hxl
    refine ⟨_, (pss_cons (ps_if (PW.pt (pw_or (pt_not (pt_val (pe_callB (k_isi (K := K) rfl) (by rfl) T.n_isinstance (by decide +kernel) (pa_cons (pv 0) (pa_cons (pe_bltn (v := .ty "list") (by rfl) T.n_list (by decide +kernel) rfl) pa_nil))))) (pw_or1 (pt_not (pt_val (pe_callB (k_all (K := K) rfl rfl) (by rfl) T.n_all (by decide +kernel) (pa_cons (pe_lc (own := [("one", 2)]) (g := (gName 2)) (tt := tYes) rfl sc_are_runs.nd (k_plist (K := K) rfl (pv 0)) (blkOk_by (own := [("one", 2)]) (N := ["thing", "size", "one", "other", "many", "number"]) (sc := defScope s_are_runs) (by decide +kernel)) (fun _ _ _ _ _ => (pg_name (i := 2) sc_are_runs.nd rfl (Or.inl rfl))) (fun _ _ _ _ _ => pts_nil) (fun _ _ _ _ _ => (d1 (ok_is_run T) (hr.mono (by decide)) (by rfl) T.m_is_run T.F_is_run.kp T.b_is_run passL (pa_cons (pv 2) pa_nil)))) pa_nil))))))) (pss_one (ps_ret pe_bl)) pss_nil)
      (pss_cons (ps_if (pt_val (pe_callB (k_any (K := K) rfl rfl) (by rfl) T.n_any (by decide +kernel) (pa_cons (pe_lc (own := [("one", 2), ("other", 3)]) (g := (gTup K 2 (gCons (gName 2) (gCons (gName 3) gNil)))) (tt := tYes) rfl sc_are_runs.nd (k_pzip (K := K) rfl (by rfl) T.n_zip (pa_cons (pv 0) (pa_cons (pe_slice (k_sl (K := K) rfl) (pv 0) (po_some pe_int) po_none) pa_nil))) (blkOk_by (own := [("one", 2), ("other", 3)]) (N := ["thing", "size", "one", "other", "many", "number"]) (sc := defScope s_are_runs) (by decide +kernel)) (fun _ _ _ _ _ => (k_gtup (K := K) 2 rfl rfl (pgs_cons (pg_name (i := 2) sc_are_runs.nd rfl (Or.inl rfl)) (pgs_cons (pg_name (i := 3) sc_are_runs.nd rfl (Or.inl rfl)) pgs_nil)))) (fun _ _ _ _ _ => pts_nil) (fun _ _ _ _ _ => (pe_cmpR (k_eq (K := K) rfl hr.r.units) (pe_ix (k_ix (K := K) rfl) (pv 2) pe_int (fun _ _ => rfl)) (pe_ix (k_ix (K := K) rfl) (pv 3) pe_int (fun _ _ => rfl)) (nomark _)))) pa_nil))) (pss_one (ps_ret pe_bl)) pss_nil)
      (pss_one (ps_ret (pe_cmpR (k_eq (K := K) rfl hr.r.units) (pe_callB (k_sum (K := K) rfl rfl) (by rfl) T.n_sum (by decide +kernel) (pa_cons (pe_lc (own := [("many", 4), ("number", 5)]) (g := (gTup K 2 (gCons (gName 4) (gCons (gName 5) gNil)))) (tt := tYes) rfl sc_are_runs.nd (k_plist (K := K) rfl (pv 0)) (blkOk_by (own := [("many", 4), ("number", 5)]) (N := ["thing", "size", "one", "other", "many", "number"]) (sc := defScope s_are_runs) (by decide +kernel)) (fun _ _ _ _ _ => (k_gtup (K := K) 2 rfl rfl (pgs_cons (pg_name (i := 4) sc_are_runs.nd rfl (Or.inl rfl)) (pgs_cons (pg_name (i := 5) sc_are_runs.nd rfl (Or.inl rfl)) pgs_nil)))) (fun _ _ _ _ _ => pts_nil) (fun _ _ _ _ _ => (pv 4))) pa_nil)) (pv 1) (nomark _)))))), ?_⟩
    dsimp only [cxOf, st_1, st_2, st_3, st_4, st_5, st_6, List.length_cons, List.length_nil, List.replicate_succ, List.replicate_zero, Nat.reduceAdd, Nat.reduceSub]
    walk_at "gs"
    refine i_isD hD (show kitB "list" "list" = some true by decide +kernel) ?_
    walk_at "gs"
    refine i_mapL hsq (List.replicate xs.length (.bl true)) (by rw [List.length_replicate]) (by omega) ?_ ?_
    · intro D i x y H' Q' fD hx hy k1 q
      obtain ⟨d, hd, hdp⟩ := dpa_getV hall hx
      obtain ⟨p, hp, rfl⟩ := map_get hd
      obtain ⟨t, rfl, hT⟩ := dp_pair (dp_imm k1 _ _ rfl hdp)
      have hy2 := rep_get hy
      subst hy2
      walk_at "gs"
      exact ⟨t, p.1, p.2, rfl, hT, hpos p (List.mem_of_getElem? hp), q H' Kp.refl⟩
    intro D1 H1 fD1 k1 e1
    walk_at "gs"
    have eb : List.replicate xs.length (V.bl true) = (List.replicate xs.length true).map V.bl := by rw [List.map_replicate]
    rw [eb] at e1
    refine i_all (SqL.of e1) ?_
    rw [all_true]
    walk_at "gs"
    have hsq1 := k1.seqL not_nil hsq
    walk_at "gs"
    refine i_new fun z hz => ?_
    have ec : cutV xs (some 1) none = xs.tail := by
      cases xs with
      | nil => rfl
      | cons x t => exact cutV_tail x t
    rw [ec]
    have kz : Kp [] H1 (upd H1 z (.lst xs.tail)) := Kp.new hz
    walk_at "gs"
    refine i_mapZ (kz.seqL not_nil hsq1) (SqL.of upd_same) (List.replicate (min xs.length xs.tail.length) (.bl false)) (by rw [List.length_replicate]) (by rw [List.length_replicate]; omega) ?_ ?_
    · intro D i x u y T H' Q' fD hx hu hy k2 fT q
      obtain ⟨d, hd, hdp⟩ := dpa_getV hall hx
      obtain ⟨p, hp, rfl⟩ := map_get hd
      have hall2 : DpAll K H xs.tail (ps.tail.map d2) := by
        rw [List.map_tail]
        exact dpa_tail hall
      obtain ⟨d, hd, hdq⟩ := dpa_getV hall2 hu
      obtain ⟨p2, hp2, rfl⟩ := map_get hd
      have ne := apart_get _ _ _ _ hap hp hp2
      have kk : Kp [] H (upd H' T (.tup [x, u])) := Kp.trans (Kp.trans k1 kz) (Kp.trans k2 (Kp.new fT))
      obtain ⟨t, rfl, hT⟩ := dp_pair (dp_imm kk _ _ rfl hdp)
      obtain ⟨t2, rfl, hT2⟩ := dp_pair (dp_imm kk _ _ rfl hdq)
      have hy2 := rep_get hy
      subst hy2
      walk_at "gs"
      rw [decide_eq_false ne]
      exact q _ (Kp.new fT)
    intro D2 H2 fD2 k2 e2
    walk_at "gs"
    have eb2 : List.replicate (min xs.length xs.tail.length) (V.bl false) = (List.replicate (min xs.length xs.tail.length) false).map V.bl := by rw [List.map_replicate]
    rw [eb2] at e2
    refine i_any (SqL.of e2) ?_
    rw [any_false]
    walk_at "gs"
    have k02 : Kp [] H H2 := Kp.trans (Kp.trans k1 kz) k2
    refine i_mapL (k02.seqL not_nil hsq) ((ps.map (·.1)).map V.int) (by rw [List.length_map, List.length_map]; omega) (by omega) ?_ ?_
    · intro D i x y H' Q' fD hx hy k3 q
      obtain ⟨d, hd, hdp⟩ := dpa_getV hall hx
      obtain ⟨p, hp, rfl⟩ := map_get hd
      obtain ⟨t, rfl, hT⟩ := dp_pair (dp_imm (Kp.trans k02 k3) _ _ rfl hdp)
      rw [List.getElem?_map, List.getElem?_map, hp] at hy
      cases hy
      walk_at "gs"
      exact q H' Kp.refl
    intro D3 H3 fD3 k3 e3
    walk_at "gs"
    refine i_sum (SqL.of e3) ?_
    walk_at "gs"
    have es : (ps.map (·.1)).sum = n := hw
    rw [decide_eq_true es]
    exact k H3 (Kp.trans k02 k3)

/-! ### a memory -/
def mfs (n : Int) (l : Addr) : List (Str × V) := [("wide", .int n), ("pairs", .ref l)]
def MemAt (K : PySem.W.Frag) (C : Addr) (H : Hp) (m : Addr) (cs : List Int) : Prop :=
  ∃ dx l, H m = some (.ins C dx (mfs cs.length l)) ∧ LD K H l ((rle cs).map d2)
/-- b is not the list that m holds its runs in -/
def Off (H : Hp) (m b : Addr) : Prop := ∀ C dx n l, H m = some (.ins C dx (mfs n l)) → l ≠ b
theorem off_mk {H : Hp} {m b l C dx : Addr} {n : Int} (e : H m = some (.ins C dx (mfs n l))) (h : l ≠ b) : Off H m b := by
  intro C2 dx2 n2 l2 e2
  rw [e] at e2
  injection e2 with e2
  injection e2 with _ _ e3
  unfold mfs at e3
  injection e3 with _ e4
  injection e4 with e5 _
  injection e5 with _ e6
  injection e6 with e7
  rw [← e7]
  exact h
theorem off_kp {ws : List Addr} {H H' : Hp} {m b : Addr} (k : Kp ws H H') (t : Tr H m) (n : m ∉ ws) (h : Off H m b) : Off H' m b := by
  obtain ⟨o, e⟩ := t.ex
  intro C dx n2 l e2
  rw [k.at_ _ _ e n] at e2
  cases e2
  exact h _ _ _ _ e
/-- another thing that is written -/
def Oth (H : Hp) (m p : Addr) : Prop := (∃ i xs, H p = some (.lst (.int i :: xs))) ∨ (p ≠ m ∧ ∃ C dx fs, H p = some (.ins C dx fs)) ∨
  ((∃ xs, H p = some (.lst xs)) ∧ Off H m p)
section
variable {K : PySem.W.Frag} {C : Addr} {H H' : Hp} {m p l : Addr} {cs ds : List Int} {ws : List Addr} {o : HO}
theorem ld_ne_int {i : Int} {xs : List V} (h : LD K H l ((rle cs).map d2)) (e : H p = some (.lst (.int i :: xs))) : l ≠ p := by
  intro z
  obtain ⟨vs, q, a⟩ := h
  rw [z, e] at q
  cases q
  cases w : rle cs with
  | nil =>
    rw [w] at a
    cases a
  | cons x t =>
    rw [w] at a
    cases a
    rename_i a b
    cases a
theorem MemAt.kp (h : MemAt K C H m cs) (k : Kp ws H H') (n : ∀ p ∈ ws, Oth H m p) : MemAt K C H' m cs := by
  obtain ⟨dx, l, hm, ld⟩ := h
  refine ⟨dx, l, k.at_ _ _ hm ?_, LD.kp ld k (imms_d2 _) ?_⟩
  · intro z
    rcases n m z with ⟨i, xs, e⟩ | ⟨q, _⟩ | ⟨⟨xs, e⟩, _⟩
    · rw [hm] at e
      cases e
    · exact q rfl
    · rw [hm] at e
      cases e
  · intro z
    rcases n l z with ⟨i, xs, e⟩ | ⟨q, D, dy, fs, e⟩ | ⟨_, e⟩
    · exact ld_ne_int ld e rfl
    · obtain ⟨vs, e2, _⟩ := ld
      rw [e] at e2
      cases e2
    · exact e _ _ _ _ hm rfl
theorem mem_kp0 (h : MemAt K C H m cs) (k : Kp [] H H') : MemAt K C H' m cs := h.kp k fun p hp => nomatch hp
theorem mem_kp1 (h : MemAt K C H m cs) (k : Kp [p] H H') (n : Oth H m p) : MemAt K C H' m cs :=
  h.kp k fun q hq => by
    rw [List.mem_singleton.mp hq]
    exact n
theorem mem_upd (h : MemAt K C H m cs) (f : Fr H p) : MemAt K C (upd H p o) m cs := mem_kp0 h (Kp.new f)
theorem oth_pot (h : PotAt H p) : Oth H m p := by
  obtain ⟨x, y, e, _⟩ := h
  exact .inl ⟨_, _, e⟩
theorem oth_mem (h : MemAt K C H p ds) (n : p ≠ m) : Oth H m p := by
  obtain ⟨dx, l, e, _⟩ := h
  exact .inr (.inl ⟨n, _, _, _, e⟩)
theorem oth_lst {xs : List V} (h : H p = some (.lst xs)) (n : Off H m p) : Oth H m p := .inr (.inr ⟨⟨xs, h⟩, n⟩)
theorem tr_mem (h : MemAt K C H m cs) : Tr H m := by
  obtain ⟨dx, l, e, _⟩ := h
  exact ⟨_, e⟩
theorem pot_ne_mem (h : PotAt H p) (g : MemAt K C H m cs) : p ≠ m := by
  obtain ⟨x, y, e, _⟩ := h
  obtain ⟨dx, l, e2, _⟩ := g
  intro z
  rw [z, e2] at e
  cases e
theorem pot_kp_mem (h : PotAt H p) (g : MemAt K C H m cs) (k : Kp [m] H H') : PotAt H' p := h.kp k (not_one (pot_ne_mem h g))
end
theorem two_ne {H : Hp} {a b : Addr} {u v : HO} (h1 : H a = some u) (h2 : H b = some v) (n : u ≠ v) : a ≠ b := by
  intro z
  rw [z, h2] at h1
  cases h1
  exact n rfl
theorem one_few {p : Int × Int} : [p].length ≤ 10000 := by
  rw [List.length_singleton]
  decide
def sp_init (K : PySem.W.Frag) (C : Addr) : Sp := fun vs H Q _ => ∃ (m dx : Addr) (n v : Int), vs = [.ref m, .int n, .int v] ∧
  H m = some (.ins C dx []) ∧ (1 ≤ n ∧ n ≤ 1000000000000000000) ∧
  ∀ H', Kp [m] H H' → MemAt K C H' m (List.replicate n.toNat v) → (∀ b, Tr H b → Off H' m b) → Q .non H'
theorem rle_one {n v : Int} (h : 1 ≤ n) : rle (List.replicate n.toNat v) = [(n, v)] := by
  have e := rle_rep v [] (n.toNat - 1)
  have e2 : n.toNat - 1 + 1 = n.toNat := by omega
  rw [e2, List.append_nil] at e
  rw [e]
  show [(0 + (((n.toNat - 1 : Nat) : Int) + 1), v)] = _
  congr 2
  omega
theorem sc_Memory_init : FnScope ["self", "size", "number"] ["self", "size", "number"] (defScope s_Memory_init) :=
  ⟨rfl, rfl, rfl, by decide +kernel, rfl, by decide +kernel, by decide +kernel⟩
theorem ok_Memory_init {P : Program} {w : World} {K : PySem.W.Frag} {mg : Str → Option Value} {base : Heap} (T : Txt K mg) :
    FnG P w K mg base 5 T.a_Memory_init T.d_Memory_init ["self", "size", "number"] (sp_init K T.c_Memory) := by
  refine okD T.F_Memory_init sc_Memory_init (fun vs H Q E h => ?_) (fun cdv A outer s H vs Q E hr h => ?_)
  · first
      | (obtain ⟨_, rfl, _⟩ := h; rfl)
      | (obtain ⟨_, _, rfl, _⟩ := h; rfl)
      | (obtain ⟨_, _, _, rfl, _⟩ := h; rfl)
      | (obtain ⟨_, _, _, _, rfl, _⟩ := h; rfl)
      | (obtain ⟨_, _, _, _, _, rfl, _⟩ := h; rfl)
      | (obtain ⟨_, _, _, _, _, _, rfl, _⟩ := h; rfl)
      | (obtain ⟨_, _, _, _, _, _, _, rfl, _⟩ := h; rfl)
      | (obtain ⟨_, _, _, _, _, _, _, _, rfl, _⟩ := h; rfl)
      | (obtain ⟨_, _, _, _, _, _, _, _, _, rfl, _⟩ := h; rfl)
      | (obtain ⟨_, _, _, _, _, _, _, _, _, _, rfl, _⟩ := h; rfl)
      | (obtain ⟨_, _, _, _, _, _, _, _, _, _, _, rfl, _⟩ := h; rfl)
      | (obtain ⟨_, _, _, _, _, _, _, _, _, _, _, _, rfl, _⟩ := h; rfl)
      | (obtain ⟨_, _, _, _, _, _, _, _, _, _, _, _, _, rfl, _⟩ := h; rfl)
      | (obtain ⟨_, _, _, _, _, _, _, _, _, _, _, _, _, _, rfl, _⟩ := h; rfl)
      | (obtain ⟨_, _, _, _, _, _, _, _, _, _, _, _, _, _, _, rfl, _⟩ := h; rfl)
      | (obtain ⟨_, _, _, _, _, _, _, _, _, _, _, _, _, _, _, _, rfl, _⟩ := h; rfl)
      | (obtain ⟨_, _, _, _, _, _, _, _, _, _, _, _, _, _, _, _, _, rfl, _⟩ := h; rfl)
      | (obtain ⟨_, _, _, _, _, _, _, _, _, _, _, _, _, _, _, _, _, _, rfl, _⟩ := h; rfl)
      | (obtain ⟨_, _, _, _, _, _, _, _, _, _, _, _, _, _, _, _, _, _, _, rfl, _⟩ := h; rfl)
  · obtain ⟨m, dx, n, v, rfl, hm, z, k⟩ := h
    have cl_Memory := T.cl_Memory
    have na_Memory_pairs := T.na_Memory_pairs
    have na_Memory_wide := T.na_Memory_wide
    refine ⟨_, (pss_cons (ps_expr (d1 (ok_want_size T) (hr.mono (by decide)) (by rfl) T.m_want_size T.F_want_size.kp T.b_want_size passL (pa_cons (pv 1) pa_nil)))
      (pss_cons (ps_expr (d1 (ok_want_number T) (hr.mono (by decide)) (by rfl) T.m_want_number T.F_want_number.kp T.b_want_number passL (pa_cons (pv 2) pa_nil)))
      (pss_cons (k_sfld (K := K) rfl (pv 0) (pv 1) rfl)
      (pss_one (k_sfld (K := K) rfl (pv 0) (pe_lst (pa_cons (pe_tup (pa_cons (pv 1) (pa_cons (pv 2) pa_nil))) pa_nil)) rfl))))), ?_⟩
    dsimp only [cxOf, st_1, st_2, st_3, st_4, st_5, st_6, List.length_cons, List.length_nil, List.replicate_succ, List.replicate_zero, Nat.reduceAdd, Nat.reduceSub]
    walk_at "gs"
    refine ⟨n, rfl, z, ?_⟩
    walk_at "gs"
    refine ⟨v, rfl, ?_⟩
    walk_at "gs"
    refine i_new fun t ht => ?_
    walk_at "gs"
    refine i_new fun l hl => ?_
    have ntm : t ≠ m := by walk_at "g_ne"
    have nlm : l ≠ m := by walk_at "g_ne"
    have nlt : t ≠ l := by walk_at "g_ne"
    walk_at "gs"
    refine k _ (by walk_at "g_kp") ⟨dx, l, ?_, ?_⟩ (fun b hb => off_mk upd_same (Ne.symm (fr_tr (tr_upd (tr_upd hb)) hl)))
    · rw [List.length_replicate]
      have e : ((n.toNat : Nat) : Int) = n := by omega
      rw [e]
      exact upd_same
    · rw [rle_one z.1]
      have e1 := ntm
      refine ⟨_, ?_, dpa_one (dp_mk2 (a := t) (m := n) (n := v) (SqT.of ?_))⟩
      · refine upd_nn ?_ ?_
        · exact nlm
        · exact upd_same
      · refine upd_nn ?_ ?_
        · exact ntm
        · refine upd_nn ?_ ?_
          · exact nlt
          · exact upd_same
def sp_msize (K : PySem.W.Frag) (C : Addr) : Sp := fun vs H Q _ => ∃ (m : Addr) (cs : List Int), vs = [.ref m] ∧ MemAt K C H m cs ∧
  Q (.int cs.length) H
theorem sc_Memory_size : FnScope ["self"] ["self"] (defScope s_Memory_size) :=
  ⟨rfl, rfl, rfl, by decide +kernel, rfl, by decide +kernel, by decide +kernel⟩
theorem ok_Memory_size {P : Program} {w : World} {K : PySem.W.Frag} {mg : Str → Option Value} {base : Heap} (T : Txt K mg) :
    FnG P w K mg base 1 T.a_Memory_size T.d_Memory_size ["self"] (sp_msize K T.c_Memory) := by
  refine okD T.F_Memory_size sc_Memory_size (fun vs H Q E h => ?_) (fun cdv A outer s H vs Q E hr h => ?_)
  · first
      | (obtain ⟨_, rfl, _⟩ := h; rfl)
      | (obtain ⟨_, _, rfl, _⟩ := h; rfl)
      | (obtain ⟨_, _, _, rfl, _⟩ := h; rfl)
      | (obtain ⟨_, _, _, _, rfl, _⟩ := h; rfl)
      | (obtain ⟨_, _, _, _, _, rfl, _⟩ := h; rfl)
      | (obtain ⟨_, _, _, _, _, _, rfl, _⟩ := h; rfl)
      | (obtain ⟨_, _, _, _, _, _, _, rfl, _⟩ := h; rfl)
      | (obtain ⟨_, _, _, _, _, _, _, _, rfl, _⟩ := h; rfl)
      | (obtain ⟨_, _, _, _, _, _, _, _, _, rfl, _⟩ := h; rfl)
      | (obtain ⟨_, _, _, _, _, _, _, _, _, _, rfl, _⟩ := h; rfl)
      | (obtain ⟨_, _, _, _, _, _, _, _, _, _, _, rfl, _⟩ := h; rfl)
      | (obtain ⟨_, _, _, _, _, _, _, _, _, _, _, _, rfl, _⟩ := h; rfl)
      | (obtain ⟨_, _, _, _, _, _, _, _, _, _, _, _, _, rfl, _⟩ := h; rfl)
      | (obtain ⟨_, _, _, _, _, _, _, _, _, _, _, _, _, _, rfl, _⟩ := h; rfl)
      | (obtain ⟨_, _, _, _, _, _, _, _, _, _, _, _, _, _, _, rfl, _⟩ := h; rfl)
      | (obtain ⟨_, _, _, _, _, _, _, _, _, _, _, _, _, _, _, _, rfl, _⟩ := h; rfl)
      | (obtain ⟨_, _, _, _, _, _, _, _, _, _, _, _, _, _, _, _, _, rfl, _⟩ := h; rfl)
      | (obtain ⟨_, _, _, _, _, _, _, _, _, _, _, _, _, _, _, _, _, _, rfl, _⟩ := h; rfl)
      | (obtain ⟨_, _, _, _, _, _, _, _, _, _, _, _, _, _, _, _, _, _, _, rfl, _⟩ := h; rfl)
  · obtain ⟨m, cs, rfl, ⟨dx, l, hm, ld⟩, k⟩ := h
    have cl_Memory := T.cl_Memory
    have na_Memory_pairs := T.na_Memory_pairs
    have na_Memory_wide := T.na_Memory_wide
    refine ⟨_, (pss_one (ps_ret (k_fld (K := K) rfl (pv 0) rfl))), ?_⟩
    dsimp only [cxOf, st_1, st_2, st_3, st_4, st_5, st_6, List.length_cons, List.length_nil, List.replicate_succ, List.replicate_zero, Nat.reduceAdd, Nat.reduceSub]
    walk_at "gs"
    exact k
def sp_runs (K : PySem.W.Frag) (C : Addr) : Sp := fun vs H Q _ => ∃ (m : Addr) (cs : List Int), vs = [.ref m] ∧ MemAt K C H m cs ∧
  ∀ l H', Fr H l → Kp [] H H' → LD K H' l ((rle cs).map d2) → Q (.ref l) H'
theorem sc_Memory_runs : FnScope ["self"] ["self"] (defScope s_Memory_runs) :=
  ⟨rfl, rfl, rfl, by decide +kernel, rfl, by decide +kernel, by decide +kernel⟩
theorem ok_Memory_runs {P : Program} {w : World} {K : PySem.W.Frag} {mg : Str → Option Value} {base : Heap} (T : Txt K mg) :
    FnG P w K mg base 1 T.a_Memory_runs T.d_Memory_runs ["self"] (sp_runs K T.c_Memory) := by
  refine okD T.F_Memory_runs sc_Memory_runs (fun vs H Q E h => ?_) (fun cdv A outer s H vs Q E hr h => ?_)
  · first
      | (obtain ⟨_, rfl, _⟩ := h; rfl)
      | (obtain ⟨_, _, rfl, _⟩ := h; rfl)
      | (obtain ⟨_, _, _, rfl, _⟩ := h; rfl)
      | (obtain ⟨_, _, _, _, rfl, _⟩ := h; rfl)
      | (obtain ⟨_, _, _, _, _, rfl, _⟩ := h; rfl)
      | (obtain ⟨_, _, _, _, _, _, rfl, _⟩ := h; rfl)
      | (obtain ⟨_, _, _, _, _, _, _, rfl, _⟩ := h; rfl)
      | (obtain ⟨_, _, _, _, _, _, _, _, rfl, _⟩ := h; rfl)
      | (obtain ⟨_, _, _, _, _, _, _, _, _, rfl, _⟩ := h; rfl)
      | (obtain ⟨_, _, _, _, _, _, _, _, _, _, rfl, _⟩ := h; rfl)
      | (obtain ⟨_, _, _, _, _, _, _, _, _, _, _, rfl, _⟩ := h; rfl)
      | (obtain ⟨_, _, _, _, _, _, _, _, _, _, _, _, rfl, _⟩ := h; rfl)
      | (obtain ⟨_, _, _, _, _, _, _, _, _, _, _, _, _, rfl, _⟩ := h; rfl)
      | (obtain ⟨_, _, _, _, _, _, _, _, _, _, _, _, _, _, rfl, _⟩ := h; rfl)
      | (obtain ⟨_, _, _, _, _, _, _, _, _, _, _, _, _, _, _, rfl, _⟩ := h; rfl)
      | (obtain ⟨_, _, _, _, _, _, _, _, _, _, _, _, _, _, _, _, rfl, _⟩ := h; rfl)
      | (obtain ⟨_, _, _, _, _, _, _, _, _, _, _, _, _, _, _, _, _, rfl, _⟩ := h; rfl)
      | (obtain ⟨_, _, _, _, _, _, _, _, _, _, _, _, _, _, _, _, _, _, rfl, _⟩ := h; rfl)
      | (obtain ⟨_, _, _, _, _, _, _, _, _, _, _, _, _, _, _, _, _, _, _, rfl, _⟩ := h; rfl)
  · obtain ⟨m, cs, rfl, ⟨dx, l, hm, ld⟩, k⟩ := h
    obtain ⟨vs, hv, hall⟩ := id ld
    have cl_Memory := T.cl_Memory
    have na_Memory_pairs := T.na_Memory_pairs
    have na_Memory_wide := T.na_Memory_wide
    refine ⟨_, (pss_one (ps_ret (pe_callTy (k_list (K := K) rfl) (by rfl) T.n_list (by decide +kernel) (pa_cons (k_fld (K := K) rfl (pv 0) rfl) pa_nil)))), ?_⟩
    dsimp only [cxOf, st_1, st_2, st_3, st_4, st_5, st_6, List.length_cons, List.length_nil, List.replicate_succ, List.replicate_zero, Nat.reduceAdd, Nat.reduceSub]
    walk_at "gs"
    refine i_new fun q hq => ?_
    walk_at "gs"
    exact k q _ hq (Kp.new hq) ⟨_, upd_same, dpa_imm (Kp.new (ws := []) hq) _ _ (imms_d2 _) hall⟩
def sp_mat (K : PySem.W.Frag) (C : Addr) : Sp := fun vs H Q _ => ∃ (m : Addr) (c : Nat) (cs : List Int) (v : Int), vs = [.ref m, .int c] ∧
  MemAt K C H m cs ∧ (rle cs).length ≤ 10000 ∧ cs[c]? = some v ∧ ∀ H', Kp [] H H' → Q (.int v) H'
theorem sc_Memory_at : FnScope ["self", "cell"] ["self", "cell"] (defScope s_Memory_at) :=
  ⟨rfl, rfl, rfl, by decide +kernel, rfl, by decide +kernel, by decide +kernel⟩
theorem ok_Memory_at {P : Program} {w : World} {K : PySem.W.Frag} {mg : Str → Option Value} {base : Heap} (T : Txt K mg) :
    FnG P w K mg base 4 T.a_Memory_at T.d_Memory_at ["self", "cell"] (sp_mat K T.c_Memory) := by
  refine okD T.F_Memory_at sc_Memory_at (fun vs H Q E h => ?_) (fun cdv A outer s H vs Q E hr h => ?_)
  · first
      | (obtain ⟨_, rfl, _⟩ := h; rfl)
      | (obtain ⟨_, _, rfl, _⟩ := h; rfl)
      | (obtain ⟨_, _, _, rfl, _⟩ := h; rfl)
      | (obtain ⟨_, _, _, _, rfl, _⟩ := h; rfl)
      | (obtain ⟨_, _, _, _, _, rfl, _⟩ := h; rfl)
      | (obtain ⟨_, _, _, _, _, _, rfl, _⟩ := h; rfl)
      | (obtain ⟨_, _, _, _, _, _, _, rfl, _⟩ := h; rfl)
      | (obtain ⟨_, _, _, _, _, _, _, _, rfl, _⟩ := h; rfl)
      | (obtain ⟨_, _, _, _, _, _, _, _, _, rfl, _⟩ := h; rfl)
      | (obtain ⟨_, _, _, _, _, _, _, _, _, _, rfl, _⟩ := h; rfl)
      | (obtain ⟨_, _, _, _, _, _, _, _, _, _, _, rfl, _⟩ := h; rfl)
      | (obtain ⟨_, _, _, _, _, _, _, _, _, _, _, _, rfl, _⟩ := h; rfl)
      | (obtain ⟨_, _, _, _, _, _, _, _, _, _, _, _, _, rfl, _⟩ := h; rfl)
      | (obtain ⟨_, _, _, _, _, _, _, _, _, _, _, _, _, _, rfl, _⟩ := h; rfl)
      | (obtain ⟨_, _, _, _, _, _, _, _, _, _, _, _, _, _, _, rfl, _⟩ := h; rfl)
      | (obtain ⟨_, _, _, _, _, _, _, _, _, _, _, _, _, _, _, _, rfl, _⟩ := h; rfl)
      | (obtain ⟨_, _, _, _, _, _, _, _, _, _, _, _, _, _, _, _, _, rfl, _⟩ := h; rfl)
      | (obtain ⟨_, _, _, _, _, _, _, _, _, _, _, _, _, _, _, _, _, _, rfl, _⟩ := h; rfl)
      | (obtain ⟨_, _, _, _, _, _, _, _, _, _, _, _, _, _, _, _, _, _, _, rfl, _⟩ := h; rfl)
  · obtain ⟨m, c, cs, v, rfl, ⟨dx, l, hm, ld⟩, hn, hv, k⟩ := h
    have hc : c < cs.length := (List.getElem?_eq_some_iff.mp hv).1
    have cl_Memory := T.cl_Memory
    have na_Memory_pairs := T.na_Memory_pairs
    have na_Memory_wide := T.na_Memory_wide
    refine ⟨_, (pss_cons (ps_expr (d1 (ok_want_cell T) (hr.mono (by decide)) (by rfl) T.m_want_cell T.F_want_cell.kp T.b_want_cell passL (pa_cons (pv 1) (pa_cons (k_fld (K := K) rfl (pv 0) rfl) pa_nil))))
      (pss_one (ps_ret (pe_ix (k_ix (K := K) rfl) (pe_ix (k_ix (K := K) rfl) (d1 (ok_cut_out T) (hr.mono (by decide)) (by rfl) T.m_cut_out T.F_cut_out.kp T.b_cut_out passL (pa_cons (k_fld (K := K) rfl (pv 0) rfl) (pa_cons (pv 1) (pa_cons (pe_op (k_add (K := K) rfl) (pv 1) pe_int) pa_nil)))) pe_int (fun _ _ => rfl)) pe_int (fun _ _ => rfl))))), ?_⟩
    dsimp only [cxOf, st_1, st_2, st_3, st_4, st_5, st_6, List.length_cons, List.length_nil, List.replicate_succ, List.replicate_zero, Nat.reduceAdd, Nat.reduceSub]
    walk_at "gs"
    refine ⟨c, cs.length, rfl, by omega, ?_⟩
    walk_at "gs"
    refine ⟨l, c, c + 1, rle cs, rfl, ld.dp, by omega, fun f H1 hf k1 lf => ?_⟩
    rw [cut_at hv] at lf
    obtain ⟨us, hu, ha⟩ := lf
    cases ha
    rename_i x us hx hus
    cases hus
    obtain ⟨t, rfl, ht⟩ := dp_pair hx
    walk_at "gs"
    exact k H1 k1
def sp_lay (K : PySem.W.Frag) (C : Addr) : Sp := fun vs H Q _ => ∃ (m x : Addr) (b e : Int) (cs : List Int) (ps : List (Int × Int)),
  vs = [.ref m, .int b, .ref x, .int e] ∧ MemAt K C H m cs ∧ LD K H x (ps.map d2) ∧ (rle cs).length ≤ 10000 ∧ ps.length ≤ 10000 ∧
  (0 ≤ b ∧ b ≤ e ∧ e ≤ cs.length) ∧ (cells ps).length = (e - b).toNat ∧
  ∀ H', Kp [m] H H' → MemAt K C H' m (laid cs b.toNat (cells ps) e.toNat) → (∀ b, Tr H b → Off H' m b) → Q .non H'
theorem sc_Memory_lay : FnScope ["self", "begin", "pairs", "end", "ahead", "behind"] ["self", "begin", "pairs", "end"] (defScope s_Memory_lay) :=
  ⟨rfl, rfl, rfl, by decide +kernel, rfl, by decide +kernel, by decide +kernel⟩
theorem ok_Memory_lay {P : Program} {w : World} {K : PySem.W.Frag} {mg : Str → Option Value} {base : Heap} (T : Txt K mg) :
    FnG P w K mg base 2 T.a_Memory_lay T.d_Memory_lay ["self", "begin", "pairs", "end"] (sp_lay K T.c_Memory) := by
  refine okD T.F_Memory_lay sc_Memory_lay (fun vs H Q E h => ?_) (fun cdv A outer s H vs Q E hr h => ?_)
  · first
      | (obtain ⟨_, rfl, _⟩ := h; rfl)
      | (obtain ⟨_, _, rfl, _⟩ := h; rfl)
      | (obtain ⟨_, _, _, rfl, _⟩ := h; rfl)
      | (obtain ⟨_, _, _, _, rfl, _⟩ := h; rfl)
      | (obtain ⟨_, _, _, _, _, rfl, _⟩ := h; rfl)
      | (obtain ⟨_, _, _, _, _, _, rfl, _⟩ := h; rfl)
      | (obtain ⟨_, _, _, _, _, _, _, rfl, _⟩ := h; rfl)
      | (obtain ⟨_, _, _, _, _, _, _, _, rfl, _⟩ := h; rfl)
      | (obtain ⟨_, _, _, _, _, _, _, _, _, rfl, _⟩ := h; rfl)
      | (obtain ⟨_, _, _, _, _, _, _, _, _, _, rfl, _⟩ := h; rfl)
      | (obtain ⟨_, _, _, _, _, _, _, _, _, _, _, rfl, _⟩ := h; rfl)
      | (obtain ⟨_, _, _, _, _, _, _, _, _, _, _, _, rfl, _⟩ := h; rfl)
      | (obtain ⟨_, _, _, _, _, _, _, _, _, _, _, _, _, rfl, _⟩ := h; rfl)
      | (obtain ⟨_, _, _, _, _, _, _, _, _, _, _, _, _, _, rfl, _⟩ := h; rfl)
      | (obtain ⟨_, _, _, _, _, _, _, _, _, _, _, _, _, _, _, rfl, _⟩ := h; rfl)
      | (obtain ⟨_, _, _, _, _, _, _, _, _, _, _, _, _, _, _, _, rfl, _⟩ := h; rfl)
      | (obtain ⟨_, _, _, _, _, _, _, _, _, _, _, _, _, _, _, _, _, rfl, _⟩ := h; rfl)
      | (obtain ⟨_, _, _, _, _, _, _, _, _, _, _, _, _, _, _, _, _, _, rfl, _⟩ := h; rfl)
      | (obtain ⟨_, _, _, _, _, _, _, _, _, _, _, _, _, _, _, _, _, _, _, rfl, _⟩ := h; rfl)
  · obtain ⟨m, x, b, e, cs, ps, rfl, ⟨dx, l, hm, ld⟩, lx, hn, hp, hb, hlen, k⟩ := h
    have n1 := cut_len 0 b (rle cs)
    have n2 := cut_len e cs.length (rle cs)
    have cl_Memory := T.cl_Memory
    have na_Memory_pairs := T.na_Memory_pairs
    have na_Memory_wide := T.na_Memory_wide
    refine ⟨_, (pss_cons (ps_set (i := 4) sc_Memory_lay.nd rfl (Or.inl rfl) (d1 (ok_cut_out T) (hr.mono (by decide)) (by rfl) T.m_cut_out T.F_cut_out.kp T.b_cut_out passL (pa_cons (k_fld (K := K) rfl (pv 0) rfl) (pa_cons pe_int (pa_cons (pv 1) pa_nil)))))
      (pss_cons (ps_set (i := 5) sc_Memory_lay.nd rfl (Or.inl rfl) (d1 (ok_cut_out T) (hr.mono (by decide)) (by rfl) T.m_cut_out T.F_cut_out.kp T.b_cut_out passL (pa_cons (k_fld (K := K) rfl (pv 0) rfl) (pa_cons (pv 3) (pa_cons (k_fld (K := K) rfl (pv 0) rfl) pa_nil)))))
      (pss_one (k_sfld (K := K) rfl (pv 0) (d1 (ok_joined T) (hr.mono (by decide)) (by rfl) T.m_joined T.F_joined.kp T.b_joined passL (pa_cons (pe_op (k_add (K := K) rfl) (pe_op (k_add (K := K) rfl) (pv 4) (pv 2)) (pv 5)) pa_nil)) rfl)))), ?_⟩
    dsimp only [cxOf, st_1, st_2, st_3, st_4, st_5, st_6, List.length_cons, List.length_nil, List.replicate_succ, List.replicate_zero, Nat.reduceAdd, Nat.reduceSub]
    walk_at "gs"
    refine ⟨l, 0, b, rle cs, rfl, ld.dp, by omega, fun f H1 hf k1 lf => ?_⟩
    have ld1 : LD K H1 l ((rle cs).map d2) := by walk_at "g_ld"
    have lx1 : LD K H1 x (ps.map d2) := by walk_at "g_ld"
    walk_at "gs"
    refine ⟨l, e, cs.length, rle cs, rfl, ld1.dp, by omega, fun g H2 hg k2 lg => ?_⟩
    have lx2 : LD K H2 x (ps.map d2) := by walk_at "g_ld"
    have lf2 : LD K H2 f ((cut 0 b (rle cs)).map d2) := by walk_at "g_ld"
    obtain ⟨xv, hx, ax⟩ := lx2
    obtain ⟨fv, hfv, af⟩ := lf2
    obtain ⟨gv, hgv, ag⟩ := lg
    have lx3 := dpa_len ax
    have lf3 := dpa_len af
    have lg3 := dpa_len ag
    rw [List.length_map] at lx3 lf3 lg3
    walk_at "gs"
    refine i_new fun s hs => ?_
    walk_at "gs"
    refine i_new fun u hu => ?_
    walk_at "gs"
    have kk : Kp [] H2 (upd (upd H2 s (.lst (fv ++ xv))) u (.lst (fv ++ xv ++ gv))) := by walk_at "g_kp"
    refine ⟨u, cut 0 b (rle cs) ++ ps ++ cut e cs.length (rle cs), rfl, ?_, ?_, fun j H3 hj k3 lj => ?_⟩
    · refine LD.dp ⟨_, upd_same, ?_⟩
      rw [List.map_append, List.map_append]
      exact dpa_imm kk _ _ (by rw [← List.map_append, ← List.map_append]; exact imms_d2 _) (dpa_app (dpa_app af ax) ag)
    · rw [List.length_append, List.length_append]
      omega
    · rw [laid_rle] at lj
      walk_at "gs"
      refine k _ (by walk_at "g_kp") ⟨dx, j, ?_, ?_⟩ (fun b hb => off_mk upd_same (Ne.symm (fr_tr (tr_kp kk (tr_kp k2 (tr_kp k1 hb))) hj)))
      · rw [laid_len (by omega) (by omega) (by omega)]
        exact upd_same
      · walk_at "g_ld"

/-! ### a new instance -/
theorem i_made {C : Addr} {sp : Sp} {E : XK} {H : Hp} {Q : VK} {vs : Addr → List V}
    (h : ∀ x dx, Fr H x → Fr H dx → dx ≠ x → sp (vs x) (upd (upd H dx (.own x)) x (.ins C dx [])) (fun v H2 => v = .non ∧ Q (.ref x) H2) E) :
    Made C sp E H Q vs := fun x dx hx hd n => h x dx ⟨hx⟩ ⟨hd⟩ n
theorem kp_made {H H3 : Hp} {x dx : Addr} {o1 o2 : HO} (hx : Fr H x) (hd : Fr H dx) (k : Kp [x] (upd (upd H dx o1) x o2) H3) : Kp [] H H3 :=
  Kp.drop (Kp.trans (Kp.wide (Kp.upd (Kp.upd Kp.refl hd) hx)) k) hx

theorem wide_rle (cs : List Int) : wide (rle cs) = cs.length := by
  rw [← cells_len _ (rle_pos cs), cells_rle]

/-- a new memory -/
def NewMem (K : PySem.W.Frag) (C : Addr) (cs : List Int) (H : Hp) (Q : VK) : Prop :=
  ∀ m H', Fr H m → Kp [] H H' → MemAt K C H' m cs → (∀ b, Tr H b → Off H' m b) → Q (.ref m) H'
def sp_memory_of (K : PySem.W.Frag) (C : Addr) : Sp := fun vs H Q _ => ∃ (l : Addr) (cs : List Int), vs = [.ref l] ∧ Dp K H (.ref l) (.list ((rle cs).map d2)) ∧
  (1 ≤ cs.length ∧ cs.length ≤ 1000000000000000000) ∧ (rle cs).length ≤ 10000 ∧ NewMem K C cs H Q
theorem sc_memory_of : FnScope ["runs", "size", "found", "one", "many", "number"] ["runs"] (defScope s_memory_of) :=
  ⟨rfl, rfl, rfl, by decide +kernel, rfl, by decide +kernel, by decide +kernel⟩
theorem ok_memory_of {P : Program} {w : World} {K : PySem.W.Frag} {mg : Str → Option Value} {base : Heap} (T : Txt K mg) :
    FnG P w K mg base 7 T.a_memory_of T.d_memory_of ["runs"] (sp_memory_of K T.c_Memory) := by
  refine okD T.F_memory_of sc_memory_of (fun vs H Q E h => ?_) (fun cdv A outer s H vs Q E hr h => ?_)
  · first
      | (obtain ⟨_, rfl, _⟩ := h; rfl)
      | (obtain ⟨_, _, rfl, _⟩ := h; rfl)
      | (obtain ⟨_, _, _, rfl, _⟩ := h; rfl)
      | (obtain ⟨_, _, _, _, rfl, _⟩ := h; rfl)
      | (obtain ⟨_, _, _, _, _, rfl, _⟩ := h; rfl)
      | (obtain ⟨_, _, _, _, _, _, rfl, _⟩ := h; rfl)
      | (obtain ⟨_, _, _, _, _, _, _, rfl, _⟩ := h; rfl)
      | (obtain ⟨_, _, _, _, _, _, _, _, rfl, _⟩ := h; rfl)
      | (obtain ⟨_, _, _, _, _, _, _, _, _, rfl, _⟩ := h; rfl)
      | (obtain ⟨_, _, _, _, _, _, _, _, _, _, rfl, _⟩ := h; rfl)
      | (obtain ⟨_, _, _, _, _, _, _, _, _, _, _, rfl, _⟩ := h; rfl)
      | (obtain ⟨_, _, _, _, _, _, _, _, _, _, _, _, rfl, _⟩ := h; rfl)
      | (obtain ⟨_, _, _, _, _, _, _, _, _, _, _, _, _, rfl, _⟩ := h; rfl)
      | (obtain ⟨_, _, _, _, _, _, _, _, _, _, _, _, _, _, rfl, _⟩ := h; rfl)
      | (obtain ⟨_, _, _, _, _, _, _, _, _, _, _, _, _, _, _, rfl, _⟩ := h; rfl)
      | (obtain ⟨_, _, _, _, _, _, _, _, _, _, _, _, _, _, _, _, rfl, _⟩ := h; rfl)
      | (obtain ⟨_, _, _, _, _, _, _, _, _, _, _, _, _, _, _, _, _, rfl, _⟩ := h; rfl)
      | (obtain ⟨_, _, _, _, _, _, _, _, _, _, _, _, _, _, _, _, _, _, rfl, _⟩ := h; rfl)
      | (obtain ⟨_, _, _, _, _, _, _, _, _, _, _, _, _, _, _, _, _, _, _, rfl, _⟩ := h; rfl)
  · obtain ⟨l, cs, rfl, hD, hw, hn, k⟩ := h
    have hl := hD
    cases hl
    rename_i xs hsq hall
    have hxl := dpa_len hall
    rw [List.length_map] at hxl
    have cl_Memory := T.cl_Memory
    have na_Memory_pairs := T.na_Memory_pairs
    have na_Memory_wide := T.na_Memory_wide
    refine ⟨_, (pss_cons (ps_if (PW.pt (pw_or (pt_not (pt_val (pe_callB (k_isi (K := K) rfl) (by rfl) T.n_isinstance (by decide +kernel) (pa_cons (pv 0) (pa_cons (pe_bltn (v := .ty "list") (by rfl) T.n_list (by decide +kernel) rfl) pa_nil))))) (pw_or1 (pt_not (pt_val (pe_callB (k_all (K := K) rfl rfl) (by rfl) T.n_all (by decide +kernel) (pa_cons (pe_lc (own := [("one", 3)]) (g := (gName 3)) (tt := tYes) rfl sc_memory_of.nd (k_plist (K := K) rfl (pv 0)) (blkOk_by (own := [("one", 3)]) (N := ["runs", "size", "found", "one", "many", "number"]) (sc := defScope s_memory_of) (by decide +kernel)) (fun _ _ _ _ _ => (pg_name (i := 3) sc_memory_of.nd rfl (Or.inl rfl))) (fun _ _ _ _ _ => pts_nil) (fun _ _ _ _ _ => (d1 (ok_is_run T) (hr.mono (by decide)) (by rfl) T.m_is_run T.F_is_run.kp T.b_is_run passL (pa_cons (pv 3) pa_nil)))) pa_nil))))))) (pss_one ps_never) pss_nil)
      (pss_cons (ps_set (i := 1) sc_memory_of.nd rfl (Or.inl rfl) (pe_callB (k_sum (K := K) rfl rfl) (by rfl) T.n_sum (by decide +kernel) (pa_cons (pe_lc (own := [("many", 4), ("number", 5)]) (g := (gTup K 2 (gCons (gName 4) (gCons (gName 5) gNil)))) (tt := tYes) rfl sc_memory_of.nd (k_plist (K := K) rfl (pv 0)) (blkOk_by (own := [("many", 4), ("number", 5)]) (N := ["runs", "size", "found", "one", "many", "number"]) (sc := defScope s_memory_of) (by decide +kernel)) (fun _ _ _ _ _ => (k_gtup (K := K) 2 rfl rfl (pgs_cons (pg_name (i := 4) sc_memory_of.nd rfl (Or.inl rfl)) (pgs_cons (pg_name (i := 5) sc_memory_of.nd rfl (Or.inl rfl)) pgs_nil)))) (fun _ _ _ _ _ => pts_nil) (fun _ _ _ _ _ => (pv 4))) pa_nil)))
      (pss_cons (ps_if (PW.pt (pw_or (pt_not (pt_val (d1 (ok_is_size T) (hr.mono (by decide)) (by rfl) T.m_is_size T.F_is_size.kp T.b_is_size passL (pa_cons (pv 1) pa_nil)))) (pw_or1 (pt_not (pt_val (d1 (ok_are_runs T) (hr.mono (by decide)) (by rfl) T.m_are_runs T.F_are_runs.kp T.b_are_runs passL (pa_cons (pv 0) (pa_cons (pv 1) pa_nil)))))))) (pss_one ps_never) pss_nil)
      (pss_cons (ps_set (i := 2) sc_memory_of.nd rfl (Or.inl rfl) (mk1 T.mk_Memory (ok_Memory_init T) (hr.mono (by decide)) (by rfl) T.mg_Memory T.b_Memory_init passL (pa_cons (pv 1) pa_nil)))
      (pss_cons (ps_expr (dm T.cl_Memory T.me_Memory_lay (ok_Memory_lay T) (hr.mono (by decide)) T.b_Memory_lay passL (pv 2) (pa_cons pe_int (pa_cons (pe_callTy (k_list (K := K) rfl) (by rfl) T.n_list (by decide +kernel) (pa_cons (pv 0) pa_nil)) (pa_cons (pv 1) pa_nil)))))
      (pss_one (ps_ret (pv 2)))))))), ?_⟩
    dsimp only [cxOf, st_1, st_2, st_3, st_4, st_5, st_6, List.length_cons, List.length_nil, List.replicate_succ, List.replicate_zero, Nat.reduceAdd, Nat.reduceSub]
    walk_at "gs"
    refine i_isD hD (show kitB "list" "list" = some true by decide +kernel) ?_
    walk_at "gs"
    refine i_mapL hsq (List.replicate xs.length (.bl true)) (by rw [List.length_replicate]) (by omega) ?_ ?_
    · intro D i x y H' Q' fD hx hy k1 q
      obtain ⟨d, hd, hdp⟩ := dpa_getV hall hx
      obtain ⟨p, hp, rfl⟩ := map_get hd
      obtain ⟨t, rfl, hT⟩ := dp_pair (dp_imm k1 _ _ rfl hdp)
      have hy2 := rep_get hy
      subst hy2
      walk_at "gs"
      exact ⟨t, p.1, p.2, rfl, hT, rle_pos cs p (List.mem_of_getElem? hp), q H' Kp.refl⟩
    intro D1 H1 fD1 k1 e1
    walk_at "gs"
    have eb : List.replicate xs.length (V.bl true) = (List.replicate xs.length true).map V.bl := by rw [List.map_replicate]
    rw [eb] at e1
    refine i_all (SqL.of e1) ?_
    rw [all_true]
    walk_at "gs"
    refine i_mapL (k1.seqL not_nil hsq) (((rle cs).map (·.1)).map V.int) (by rw [List.length_map, List.length_map]; omega) (by omega) ?_ ?_
    · intro D i x y H' Q' fD hx hy k3 q
      obtain ⟨d, hd, hdp⟩ := dpa_getV hall hx
      obtain ⟨p, hp, rfl⟩ := map_get hd
      obtain ⟨t, rfl, hT⟩ := dp_pair (dp_imm (Kp.trans k1 k3) _ _ rfl hdp)
      rw [List.getElem?_map, List.getElem?_map, hp] at hy
      cases hy
      walk_at "gs"
      exact q H' Kp.refl
    intro D2 H2 fD2 k2 e2
    walk_at "gs"
    refine i_sum (SqL.of e2) ?_
    have es : ((rle cs).map (·.1)).sum = cs.length := wide_rle cs
    rw [es]
    have k02 := Kp.trans k1 k2
    have hD2 : Dp K H2 (.ref l) (.list ((rle cs).map d2)) := .lst (k02.seqL not_nil hsq) (dpa_imm k02 _ _ (imms_d2 _) hall)
    walk_at "gs"
    refine ⟨_, rfl, ?_⟩
    walk_at "gs"
    refine i_decN (fun z => absurd (by omega) z) (fun _ => ?_)
    walk_at "gs"
    refine ⟨l, rle cs, cs.length, rfl, hD2, rle_pos cs, apart_wr _, by omega, wide_rle cs, fun H3 k3 => ?_⟩
    walk_at "gs"
    refine i_made fun m d hm hd nd => ?_
    refine ⟨m, d, cs.length, 0, rfl, upd_same, by omega, fun H4 k4 M4 _ => ⟨rfl, ?_⟩⟩
    have k34 := kp_made hm hd k4
    have k04 : Kp [] H H4 := Kp.trans k02 (Kp.trans k3 k34)
    have hsq4 := k04.seqL not_nil hsq
    obtain ⟨dx, lm, hmi, ldm⟩ := id M4
    walk_at "gs"
    refine i_new fun x hx => ?_
    walk_at "gs"
    have kx : Kp [] H4 (upd H4 x (.lst xs)) := Kp.new hx
    have lx : LD K (upd H4 x (.lst xs)) x ((rle cs).map d2) := ⟨xs, upd_same, dpa_imm (Kp.trans k04 kx) _ _ (imms_d2 _) hall⟩
    rw [Int.toNat_natCast] at M4
    refine ⟨m, x, 0, cs.length, List.replicate cs.length 0, rle cs, rfl, mem_upd M4 hx, lx, ?_, hn, ?_, ?_, fun H5 k5 M5 of5 => ?_⟩
    · have e := rle_one (n := cs.length) (v := 0) (by omega)
      rw [Int.toNat_natCast] at e
      rw [e]
      exact one_few
    · rw [List.length_replicate]
      omega
    · rw [cells_rle]
      omega
    · have el : laid (List.replicate cs.length 0) 0 cs cs.length = cs := by
        unfold laid
        rw [List.take_zero, List.nil_append, List.drop_eq_nil_of_le (by rw [List.length_replicate]; omega), List.append_nil]
      rw [cells_rle, Int.toNat_natCast] at M5
      have el2 : laid (List.replicate cs.length 0) (0 : Int).toNat cs cs.length = cs := el
      rw [el2] at M5
      walk_at "gs"
      have hm0 : Fr H m := (Kp.trans k02 k3).free hm
      exact k m H5 hm0 (Kp.drop (Kp.trans (Kp.wide (Kp.trans k04 kx)) k5) hm0) M5 (fun b hb => of5 b (tr_kp (Kp.trans k04 kx) hb))

def sp_put (K : PySem.W.Frag) (C : Addr) : Sp := fun vs H Q _ => ∃ (m : Addr) (c v : Int) (cs : List Int),
  vs = [.ref m, .int c, .int v] ∧ MemAt K C H m cs ∧ (rle cs).length ≤ 10000 ∧ (0 ≤ c ∧ c < cs.length) ∧
  ∀ H', Kp [m] H H' → MemAt K C H' m (laid cs c.toNat [v] (c + 1).toNat) → (∀ b, Tr H b → Off H' m b) → Q .non H'

def sp_fill (K : PySem.W.Frag) (C : Addr) : Sp := fun vs H Q _ => ∃ (m : Addr) (b e v : Int) (cs : List Int),
  vs = [.ref m, .int b, .int e, .int v] ∧ MemAt K C H m cs ∧ (rle cs).length ≤ 10000 ∧ (0 ≤ b ∧ b ≤ e ∧ e ≤ cs.length) ∧
  ∀ H', Kp [m] H H' → MemAt K C H' m (laid cs b.toNat (List.replicate (e - b).toNat v) e.toNat) → (∀ b, Tr H b → Off H' m b) → Q .non H'
theorem sc_Memory_fill : FnScope ["self", "begin", "end", "number"] ["self", "begin", "end", "number"] (defScope s_Memory_fill) :=
  ⟨rfl, rfl, rfl, by decide +kernel, rfl, by decide +kernel, by decide +kernel⟩
theorem ok_Memory_fill {P : Program} {w : World} {K : PySem.W.Frag} {mg : Str → Option Value} {base : Heap} (T : Txt K mg) :
    FnG P w K mg base 4 T.a_Memory_fill T.d_Memory_fill ["self", "begin", "end", "number"] (sp_fill K T.c_Memory) := by
  refine okD T.F_Memory_fill sc_Memory_fill (fun vs H Q E h => ?_) (fun cdv A outer s H vs Q E hr h => ?_)
  · first
      | (obtain ⟨_, rfl, _⟩ := h; rfl)
      | (obtain ⟨_, _, rfl, _⟩ := h; rfl)
      | (obtain ⟨_, _, _, rfl, _⟩ := h; rfl)
      | (obtain ⟨_, _, _, _, rfl, _⟩ := h; rfl)
      | (obtain ⟨_, _, _, _, _, rfl, _⟩ := h; rfl)
      | (obtain ⟨_, _, _, _, _, _, rfl, _⟩ := h; rfl)
      | (obtain ⟨_, _, _, _, _, _, _, rfl, _⟩ := h; rfl)
      | (obtain ⟨_, _, _, _, _, _, _, _, rfl, _⟩ := h; rfl)
      | (obtain ⟨_, _, _, _, _, _, _, _, _, rfl, _⟩ := h; rfl)
      | (obtain ⟨_, _, _, _, _, _, _, _, _, _, rfl, _⟩ := h; rfl)
      | (obtain ⟨_, _, _, _, _, _, _, _, _, _, _, rfl, _⟩ := h; rfl)
      | (obtain ⟨_, _, _, _, _, _, _, _, _, _, _, _, rfl, _⟩ := h; rfl)
      | (obtain ⟨_, _, _, _, _, _, _, _, _, _, _, _, _, rfl, _⟩ := h; rfl)
      | (obtain ⟨_, _, _, _, _, _, _, _, _, _, _, _, _, _, rfl, _⟩ := h; rfl)
      | (obtain ⟨_, _, _, _, _, _, _, _, _, _, _, _, _, _, _, rfl, _⟩ := h; rfl)
      | (obtain ⟨_, _, _, _, _, _, _, _, _, _, _, _, _, _, _, _, rfl, _⟩ := h; rfl)
      | (obtain ⟨_, _, _, _, _, _, _, _, _, _, _, _, _, _, _, _, _, rfl, _⟩ := h; rfl)
      | (obtain ⟨_, _, _, _, _, _, _, _, _, _, _, _, _, _, _, _, _, _, rfl, _⟩ := h; rfl)
      | (obtain ⟨_, _, _, _, _, _, _, _, _, _, _, _, _, _, _, _, _, _, _, rfl, _⟩ := h; rfl)
  · obtain ⟨m, b, e, v, cs, rfl, hM, hn, hc, k⟩ := h
    obtain ⟨dx, l, hm, ld⟩ := id hM
    have cl_Memory := T.cl_Memory
    have na_Memory_pairs := T.na_Memory_pairs
    have na_Memory_wide := T.na_Memory_wide
    refine ⟨_, (pss_cons (ps_expr (d1 (ok_want_stretch T) (hr.mono (by decide)) (by rfl) T.m_want_stretch T.F_want_stretch.kp T.b_want_stretch passL (pa_cons (pv 1) (pa_cons (pv 2) (pa_cons (k_fld (K := K) rfl (pv 0) rfl) pa_nil)))))
      (pss_cons (ps_expr (d1 (ok_want_number T) (hr.mono (by decide)) (by rfl) T.m_want_number T.F_want_number.kp T.b_want_number passL (pa_cons (pv 3) pa_nil)))
      (pss_one (ps_expr (dm T.cl_Memory T.me_Memory_lay (ok_Memory_lay T) (hr.mono (by decide)) T.b_Memory_lay passL (pv 0) (pa_cons (pv 1) (pa_cons (pe_lst (pa_cons (pe_tup (pa_cons (pe_op op_sub (pv 2) (pv 1)) (pa_cons (pv 3) pa_nil))) pa_nil)) (pa_cons (pv 2) pa_nil)))))))), ?_⟩
    dsimp only [cxOf, st_1, st_2, st_3, st_4, st_5, st_6, List.length_cons, List.length_nil, List.replicate_succ, List.replicate_zero, Nat.reduceAdd, Nat.reduceSub]
    walk_at "gs"
    refine ⟨b, e, cs.length, rfl, by omega, ?_⟩
    walk_at "gs"
    refine ⟨v, rfl, ?_⟩
    walk_at "gs"
    refine i_new fun t ht => ?_
    walk_at "gs"
    refine i_new fun x hx => ?_
    walk_at "gs"
    have e0 : cells [(e - b, v)] = List.replicate (e - b).toNat v := by rw [cells_cons, cells_nil, List.append_nil]
    refine ⟨m, x, b, e, cs, [(e - b, v)], rfl, ?_, ⟨_, upd_same, dpa_one (dp_mk2 (a := t) (m := e - b) (n := v) (by walk_at "g_st"))⟩,
      hn, one_few, by omega, by rw [e0, List.length_replicate], fun H' k1 hM1 of => ?_⟩
    · exact mem_upd (mem_upd hM (by walk_at "g_fr")) (by walk_at "g_fr")
    · rw [e0] at hM1
      walk_at "gs"
      exact k H' (by walk_at "g_kp") hM1 (fun b hb => of b (tr_upd (tr_upd hb)))

/-! ### data of any kind -/
section
variable {K : PySem.W.Frag} {H H' : Hp} {ws : List Addr}
mutual
/-- data none of whose lists is in ws -/
inductive Dx (K : PySem.W.Frag) (H : Hp) (ws : List Addr) : V → PyData → Prop
  | non : Dx K H ws .non .none
  | bl (b : Bool) : Dx K H ws (.bl b) (.bool b)
  | int (i : Int) : Dx K H ws (.int i) (.int i)
  | str (x : Str) : Dx K H ws (.str x) (.str x)
  | lst {a : Addr} {xs : List V} {ds : List PyData} : a ∉ ws → H a = some (.lst xs) → DxAll K H ws xs ds → Dx K H ws (.ref a) (.list ds)
  | tup {a : Addr} {xs : List V} {ds : List PyData} : SqT K H a xs → DxAll K H ws xs ds → Dx K H ws (.ref a) (.tuple ds)
inductive DxAll (K : PySem.W.Frag) (H : Hp) (ws : List Addr) : List V → List PyData → Prop
  | nil : DxAll K H ws [] []
  | cons {v : V} {vs : List V} {d : PyData} {ds : List PyData} : Dx K H ws v d → DxAll K H ws vs ds → DxAll K H ws (v :: vs) (d :: ds)
end
mutual
theorem Dx.dp : ∀ (d : PyData) (v : V), Dx K H ws v d → Dp K H v d
  | .none, _, h => by cases h; exact .non
  | .bool b, _, h => by cases h; exact .bl b
  | .int i, _, h => by cases h; exact .int i
  | .str x, _, h => by cases h; exact .str x
  | .list ds, _, h => by
    cases h with
    | lst _ hs ha => exact .lst (SqL.of hs) (DxAll.dp ds _ ha)
  | .tuple ds, _, h => by
    cases h with
    | tup hs ha => exact .tup hs (DxAll.dp ds _ ha)
  | .dict _, _, h => by cases h
theorem DxAll.dp : ∀ (ds : List PyData) (vs : List V), DxAll K H ws vs ds → DpAll K H vs ds
  | [], _, h => by cases h; exact .nil
  | d :: ds, _, h => by
    cases h with
    | cons h1 h2 => exact .cons (Dx.dp d _ h1) (DxAll.dp ds _ h2)
end
mutual
theorem Dx.kp (k : Kp ws H H') : ∀ (d : PyData) (v : V), Dx K H ws v d → Dx K H' ws v d
  | .none, _, h => by cases h; exact .non
  | .bool b, _, h => by cases h; exact .bl b
  | .int i, _, h => by cases h; exact .int i
  | .str x, _, h => by cases h; exact .str x
  | .list ds, _, h => by
    cases h with
    | lst n hs ha => exact .lst n (k.at_ _ _ hs n) (DxAll.kp k ds _ ha)
  | .tuple ds, _, h => by
    cases h with
    | tup hs ha => exact .tup (k.seqT hs) (DxAll.kp k ds _ ha)
  | .dict _, _, h => by cases h
theorem DxAll.kp (k : Kp ws H H') : ∀ (ds : List PyData) (vs : List V), DxAll K H ws vs ds → DxAll K H' ws vs ds
  | [], _, h => by cases h; exact .nil
  | d :: ds, _, h => by
    cases h with
    | cons h1 h2 => exact .cons (Dx.kp k d _ h1) (DxAll.kp k ds _ h2)
end
mutual
theorem dx_imm : ∀ (d : PyData) (v : V), imm d = true → Dp K H v d → Dx K H ws v d
  | .none, _, _, h => by cases h; exact .non
  | .bool b, _, _, h => by cases h; exact .bl b
  | .int i, _, _, h => by cases h; exact .int i
  | .str x, _, _, h => by cases h; exact .str x
  | .list ds, _, e, h => by simp [imm] at e
  | .tuple ds, _, e, h => by
    cases h with
    | tup hs ha => exact .tup hs (dxs_imm ds _ (by simpa [imm] using e) ha)
  | .dict _, _, _, h => by cases h
theorem dxs_imm : ∀ (ds : List PyData) (vs : List V), imms ds = true → DpAll K H vs ds → DxAll K H ws vs ds
  | [], _, _, h => by cases h; exact .nil
  | d :: ds, _, e, h => by
    cases h with
    | cons h1 h2 =>
      simp only [imms, Bool.and_eq_true] at e
      exact .cons (dx_imm d _ e.1 h1) (dxs_imm ds _ e.2 h2)
end
mutual
theorem Dx.wider {us : List Addr} (hu : ∀ b ∈ us, ∀ xs, H b ≠ some (.lst xs)) : ∀ (d : PyData) (v : V), Dx K H ws v d → Dx K H (us ++ ws) v d
  | .none, _, h => by cases h; exact .non
  | .bool b, _, h => by cases h; exact .bl b
  | .int i, _, h => by cases h; exact .int i
  | .str x, _, h => by cases h; exact .str x
  | .list ds, _, h => by
    cases h with
    | lst n hs ha => exact .lst (fun z => (List.mem_append.mp z).elim (fun z => hu _ z _ hs) n) hs (DxAll.wider hu ds _ ha)
  | .tuple ds, _, h => by
    cases h with
    | tup hs ha => exact .tup hs (DxAll.wider hu ds _ ha)
  | .dict _, _, h => by cases h
theorem DxAll.wider {us : List Addr} (hu : ∀ b ∈ us, ∀ xs, H b ≠ some (.lst xs)) : ∀ (ds : List PyData) (vs : List V), DxAll K H ws vs ds → DxAll K H (us ++ ws) vs ds
  | [], _, h => by cases h; exact .nil
  | d :: ds, _, h => by
    cases h with
    | cons h1 h2 => exact .cons (Dx.wider hu d _ h1) (DxAll.wider hu ds _ h2)
end
theorem dxa_len : ∀ {ds : List PyData} {vs : List V}, DxAll K H ws vs ds → vs.length = ds.length
  | [], _, h => by cases h; rfl
  | d :: ds, _, h => by
    cases h with
    | cons h1 h2 => rw [List.length_cons, List.length_cons, dxa_len h2]
theorem dxa_get : ∀ {ds : List PyData} {vs : List V} {i : Nat} {v : V}, DxAll K H ws vs ds → vs[i]? = some v → ∃ d, ds[i]? = some d ∧ Dx K H ws v d
  | [], _, _, _, h, e => by
    cases h
    simp at e
  | d :: ds, _, 0, _, h, e => by
    cases h with
    | cons h1 h2 =>
      cases e
      exact ⟨d, rfl, h1⟩
  | d :: ds, _, i + 1, _, h, e => by
    cases h with
    | cons h1 h2 =>
      obtain ⟨q, e1, e2⟩ := dxa_get (i := i) h2 (by simpa using e)
      exact ⟨q, by simpa using e1, e2⟩
theorem dxa_app : ∀ {ds es : List PyData} {vs us : List V}, DxAll K H ws vs ds → DxAll K H ws us es → DxAll K H ws (vs ++ us) (ds ++ es)
  | [], _, _, _, h, h' => by
    cases h
    exact h'
  | d :: ds, _, _, _, h, h' => by
    cases h with
    | cons h1 h2 => exact .cons h1 (dxa_app h2 h')
theorem dxa_set : ∀ {ds : List PyData} {vs : List V} {i : Nat} {v : V} {d : PyData}, DxAll K H ws vs ds → Dx K H ws v d → DxAll K H ws (vs.set i v) (ds.set i d)
  | [], _, _, _, _, h, _ => by
    cases h
    exact .nil
  | _ :: ds, _, 0, _, _, h, h' => by
    cases h with
    | cons h1 h2 => exact .cons h' h2
  | _ :: ds, _, i + 1, _, _, h, h' => by
    cases h with
    | cons h1 h2 => exact .cons h1 (dxa_set h2 h')
theorem dxa_take : ∀ {ds : List PyData} {vs : List V} (i : Nat), DxAll K H ws vs ds → DxAll K H ws (vs.take i) (ds.take i)
  | [], _, _, h => by
    cases h
    rw [List.take_nil, List.take_nil]
    exact .nil
  | _ :: ds, _, 0, h => by
    rw [List.take_zero, List.take_zero]
    exact .nil
  | _ :: ds, _, i + 1, h => by
    cases h with
    | cons h1 h2 => exact .cons h1 (dxa_take i h2)
theorem dxa_drop : ∀ {ds : List PyData} {vs : List V} (i : Nat), DxAll K H ws vs ds → DxAll K H ws (vs.drop i) (ds.drop i)
  | [], _, _, h => by
    cases h
    rw [List.drop_nil, List.drop_nil]
    exact .nil
  | _ :: ds, _, 0, h => h
  | _ :: ds, _, i + 1, h => by
    cases h with
    | cons h1 h2 => exact dxa_drop i h2
/-- data, or an empty dict -/
def Tg (K : PySem.W.Frag) (H : Hp) (ws : List Addr) (v : V) (d : PyData) : Prop := Dx K H ws v d ∨ (d = .dict [] ∧ ∃ a, v = .ref a ∧ H a = some (.dK []) ∧ a ∉ ws)
theorem Tg.kp {v : V} {d : PyData} (t : Tg K H ws v d) (k : Kp ws H H') : Tg K H' ws v d := by
  rcases t with h | ⟨rfl, a, rfl, h, n⟩
  · exact .inl (h.kp k _ _)
  · exact .inr ⟨rfl, a, rfl, k.at_ _ _ h n, n⟩
theorem Tg.ty {v : V} {d : PyData} (t : Tg K H ws v d) : TyX K H v (.type (dty d)) := by
  rcases t with h | ⟨rfl, a, rfl, h, n⟩
  · exact dp_ty (h.dp _ _)
  · exact .base (.dK h)
theorem i_isT {T : String} {b : Bool} {Q : VK} {v : V} {d : PyData} (t : Tg K H ws v d) (e : kitB (dty d) T = some b) (h : Q (.bl b) H) :
    rIsi K [v, .ty T] H Q := ⟨v, .ty T, _, _, b, rfl, .ty T, t.ty, L2.kit_ty e, h⟩
def kInt : PyData → Bool
  | .int _ => true
  | .bool _ => true
  | _ => false
def kBool : PyData → Bool
  | .bool _ => true
  | _ => false
def kTup : PyData → Bool
  | .tuple _ => true
  | _ => false
def kLst : PyData → Bool
  | .list _ => true
  | _ => false
theorem kit_int (d : PyData) : kitB (dty d) "int" = some (kInt d) := by cases d <;> (simp only [dty, kInt]; decide +kernel)
theorem kit_bool (d : PyData) : kitB (dty d) "bool" = some (kBool d) := by cases d <;> (simp only [dty, kBool]; decide +kernel)
theorem kit_tup (d : PyData) : kitB (dty d) "tuple" = some (kTup d) := by cases d <;> (simp only [dty, kTup]; decide +kernel)
theorem kit_lst (d : PyData) : kitB (dty d) "list" = some (kLst d) := by cases d <;> (simp only [dty, kLst]; decide +kernel)
theorem i_bool2 {b : Bool} {A B : Prop} (h1 : b = true → A) (h2 : b = false → B) : if b = true then A else B := by
  cases b
  · exact iteF (h2 rfl)
  · exact iteT (h1 rfl)
def isI : PyData → Bool
  | .int _ => true
  | _ => false
def whD (d : PyData) (a b : Int) : Bool :=
  match d with
  | .int n => decide (a ≤ n ∧ n ≤ b)
  | _ => false
theorem isI_eq (d : PyData) : isI d = (kInt d && !kBool d) := by cases d <;> rfl
theorem isI_int {d : PyData} (h : isI d = true) : ∃ n, d = .int n := by
  cases d with
  | int n => exact ⟨n, rfl⟩
  | _ => cases h
theorem whD_no {d : PyData} {a b : Int} (h : isI d = false) : whD d a b = false := by
  cases d with
  | int n => cases h
  | _ => rfl
theorem whD_int {d : PyData} {a b : Int} (h : whD d a b = true) : ∃ n, d = .int n ∧ a ≤ n ∧ n ≤ b := by
  cases d with
  | int n => exact ⟨n, rfl, of_decide_eq_true h⟩
  | _ => cases h
end

/-! ### numbers, asked of anything -/
def Any (K : PySem.W.Frag) (H : Hp) (v : V) (d : PyData) : Prop := TyX K H v (.type (dty d)) ∧ ∀ n, d = .int n → v = .int n
theorem Any.dp {K : PySem.W.Frag} {H : Hp} {v : V} {d : PyData} (h : Dp K H v d) : Any K H v d := ⟨dp_ty h, fun n e => by
  subst e
  cases h
  rfl⟩
theorem Any.int {K : PySem.W.Frag} {H : Hp} (n : Int) : Any K H (.int n) (.int n) := .dp (.int n)
theorem i_isA {K : PySem.W.Frag} {H : Hp} {T : String} {b : Bool} {Q : VK} {v : V} {d : PyData} (t : Any K H v d) (e : kitB (dty d) T = some b) (h : Q (.bl b) H) :
    rIsi K [v, .ty T] H Q := ⟨v, .ty T, _, _, b, rfl, .ty T, t.1, L2.kit_ty e, h⟩

theorem fresh_at {H : Hp} {p : Addr} {o : HO} (_ : Fr H p) : upd H p o p = some o := upd_same
theorem all_rep (n : Nat) : (List.replicate n true).all id = true := by simp

/-! ### sorted(set(numbers)) of a list -/
section
open PySem PySem.Spec PyProof PyProof.Rows PySem.Calls
/-- the set as it is born -/
abbrev born (w : World) : Obj := { cls := .type "set", dict := none, data := .set #[] 0 (.fresh 0 0 (!w.params.followText "set-order")) }
abbrev grownS (w : World) (s : Shared) : Shared := { s with heap := s.heap.push (born w) }
variable {P : Program} {w : World} {A : Around} {E : Value → Shared → Prop} {s : Shared}
/-- what holds behind set.__init__ -/
def SetDone (w : World) (s : Shared) (ns : List Int) (s2 : Shared) : Prop := ∃ h' tk c, s2 = { s with heap := h', toks := tk } ∧ L2.SetR w h' s.heap.objs.size (fun j => decide (j ∈ ns)) c ∧ c ≤ ns.length ∧ ∀ b o, s.heap.get? b = some o → h'.get? b = some o
theorem ints_at {items : Array Value} {ns : List Int} (hit : IntsAre items.toList ns) (i : Nat) (v : Value) (hv : items[i]? = some v) : ∃ k t, ns[i]? = some k ∧ v = .int k t := by
  have z := IntsAre.length hit
  rw [Array.length_toList] at z
  have hi : i < ns.length := by
    have := (Array.getElem?_eq_some_iff.mp hv).1
    omega
  obtain ⟨t, e⟩ := PyProof.Rows.IntsAre.int_at hit i v (by rw [Array.getElem?_toList]; exact hv)
  exact ⟨ns[i], t, List.getElem?_eq_getElem hi, by rw [e, List.getD_eq_getElem?_getD, List.getElem?_eq_getElem hi]; rfl⟩
theorem setL_call {l : Addr} {items : Array Value} (ns : List Int) {Q : Value → Shared → Prop} (hh : A.handled = none) (hl : s.heap.IsList l items) (hit : IntsAre items.toList ns) (hb : ns.length + 1 < scanBound)
    (k : ∀ s2, SetDone w s ns s2 → Q (.ref s.heap.objs.size) s2) : wpAny (model P w) A (call (.type "set") [.ref l]) Q E s := by
  have len := IntsAre.length hit
  rw [Array.length_toList] at len
  obtain ⟨c0, tl0, m0⟩ := F.called_set.mro
  have m1 := F.called_set.made
  have m2 := F.called_set.sub
  have m3 := F.called_set.notType
  have m4 := F.called_set.canCreate
  have m5 := F.typeCall_set_1 (.ref l)
  refine wpAny_call (codeAny_of_tree ?_)
  show wpAny _ _ (callAny (.type "set") _) _ _ _
  refine wpAny_pure ⟨Code.quiet_builtin _ (by decide +kernel), codeAny_builtin F.entry_type_call ?_⟩
  rw [Around.under_plain (weight_type_call_type "set" [.ref l] []) rfl]
  repeat (any_goals (first | assumption | wp_step))
  refine codeAny_mono (L2.code_set_led1 (.ref l) (E := E) (Q₁ := fun o s1 => o = .ref s.heap.objs.size ∧ s1 = grownS w s) ⟨rfl, rfl⟩) fun r s1 hr => ?_
  match r, hr with
  | .error e, hr => exact hr
  | .ok (.ret o), ⟨e1, e2⟩ =>
    subst e1 e2
    have at0 : (grownS w s).heap.get? s.heap.objs.size = some (born w) := Heap.get?_push_size _ rfl
    have ty0 : Shared.TypeIs (grownS w s) (.ref s.heap.objs.size) "set" := ⟨_, at0, rfl⟩
    have i1 := F.called_set.init.lookup
    have i2 := F.called_set.init.bind (.ref s.heap.objs.size)
    repeat (any_goals (first | assumption | wp_step))
    refine codeAny_mono (codeAny_call_builtin (R := wants (fun r s2 => r = .none ∧ SetDone w s ns s2) E) F.called_set.init.plain F.entry_set_init (check_set_init_1 ty0 ?_)) fun r2 s2 hr2 => ?_
    · obtain ⟨⟨oc, od, odt, os⟩, eo, ec, n, ed⟩ := id hl
      simp only at ec ed
      subst ec ed
      have here : (grownS w s).heap.IsList l items := ⟨_, Heap.get?_push_of_some _ eo, rfl, n, rfl⟩
      have before : l < s.heap.objs.size := Heap.lt_size eo
      have next : (grownS w s).heap.objs.size = s.heap.objs.size + 1 := Heap.size_push ..
      have b1 := F.sub_list_set
      have b2 := F.sub_list_frozenset
      have b3 : (Value.type "list" == Value.type "dict") = false := by decide
      have eo2 : (grownS w s).heap.get? l = _ := Heap.get?_push_of_some _ eo
      unfold Builtin.«set.__init__» noKeywords Builtin.Frozenset.updateFrom
      generalize hPI : pyIter = PI
      wp_walk
      subst hPI
      refine wpAny_pyIter_list here ?_
      refine wpAny_bind (wpAny_runValue ?_)
      have hA : A.in1.in1.in1.handled = none := by simp [hh]
      have apart : l ≠ (grownS w s).heap.objs.size := by rw [next]; exact Nat.ne_of_lt (Nat.lt_succ_of_lt before)
      have away : s.heap.objs.size ∉ [(grownS w s).heap.objs.size, l] := by
        simp only [List.mem_cons, List.not_mem_nil, or_false, not_or]
        exact ⟨by rw [next]; exact Nat.ne_of_lt (Nat.lt_succ_self _), Nat.ne_of_gt before⟩
      refine L2.set_update_ints ((Walks.list hA _ l apart items).toS) s.heap.objs.size away ns len hb (ints_at hit) (items.size - 0) 0 _ (by omega) (Nat.zero_le _) ⟨⟨_, Heap.get?_push_size _ rfl, rfl, rfl⟩, here.push _⟩ ⟨0, Nat.le_refl 0, L2.setR_new_at (Heap.get?_push_of_some _ at0)⟩ ?_
      intro s3 c mv lc R
      obtain ⟨h3, g3, d3, t3, o3⟩ := s3
      have q1 : g3 = s.gens := mv.gens
      have q2 : d3 = s.drawn := mv.drawn
      have q3 : o3 = s.os := mv.os
      subst q1 q2 q3
      rw [len] at lc
      refine wpAny_pure ?_
      show wpAny _ _ (ret Value.none) _ _ _
      refine wpAny_pure ⟨rfl, h3, t3, c, rfl, R, lc, fun b o e => ?_⟩
      have lb := Heap.lt_size e
      refine mv.heap b o ?_ (Heap.get?_push_of_some _ (Heap.get?_push_of_some _ e))
      simp only [List.mem_cons, List.not_mem_nil, or_false, not_or]
      exact ⟨Nat.ne_of_lt lb, by rw [next]; exact Nat.ne_of_lt (Nat.lt_succ_of_lt lb)⟩
    · match r2, hr2 with
      | .error e, hr2 => exact hr2
      | .ok (.ret v), ⟨e3, d⟩ =>
        subst e3
        obtain ⟨h', tk, c, e4, R, lc, kp⟩ := d
        subst e4
        repeat (any_goals (first | assumption | wp_step))
        exact k _ ⟨h', tk, c, rfl, R, lc, kp⟩
end
/-- set(list of numbers) -/
def rSetL (K : PySem.W.Frag) (w : World) : List V → Hp → VK → Prop := fun xs H Q => ∃ (l : Addr) (ns : List Int), xs = [.ref l] ∧ SqL K H l (ns.map V.int) ∧ ns.length ≤ 1000 ∧
  ∀ p c, Fr H p → c ≤ ns.length → Q (.ref p) (upd H p (L2.SetO w p (fun j => decide (j ∈ ns)) c))
theorem k_setL {X : Cx} {K : PySem.W.Frag} {w : World} (h : X.K = K) (hw : X.w = w) (hc : X.calm = true) : CallR X (.type "set") (rSetL K w) := by
  subst h
  subst hw
  intro pins s σ H xs us Q I r q
  obtain ⟨l, ns, rfl, hs, hn, q⟩ := q
  rw [Vals.ref1 r]
  obtain ⟨its, rv, pl, hz⟩ := I.list hs
  have hi : PyProof.Rows.IntsAre its.toArray.toList ns := by simpa using RZ.intsAre_vals rv
  refine setL_call ns (I.ok.hd hc) pl.isList hi (by unfold scanBound; omega) fun s2 d => ?_
  obtain ⟨h', tk, c, rfl, R, lc, kp⟩ := d
  have fresh : H s.heap.objs.size = none := I.hok.fresh (Nat.le_refl _)
  exact ⟨.ref s.heap.objs.size, upd H s.heap.objs.size (L2.SetO X.w s.heap.objs.size (fun j => decide (j ∈ ns)) c), I.laid (t' := tk) kp (Nat.le_refl _) (L2.setO_new R), rfl, q _ c ⟨fresh⟩ lc⟩
theorem k_sortedSet {X : Cx} {w : World} (hw : X.w = w) (hc : X.calm = true) : CallR X (.builtin "sorted") (L2.rSortedSet w) := hw ▸ L2.cr_sortedSet hc

theorem snoc_int' {l : List Int} {n : Int} : l.map V.int ++ [V.int n] = (l ++ [n]).map V.int := by
  rw [List.map_append]
  rfl
theorem i_inT {K : PySem.W.Frag} {H : Hp} {Q : VK} {l : Addr} {ns : List Int} {k : Int} (hl : SqT K H l (ns.map V.int)) (q : Q (.bl (decide (k ∈ ns))) H) : rIn K false (.int k) (.ref l) H Q := by
  refine ⟨l, _, rfl, .inr hl, rfl, flat_ints ns, ?_⟩
  rw [inV_ints]
  exact q
theorem prs_get {H : Hp} : ∀ {xs : List V} {ps : List (Int × Int)} {i : Nat} {v : V}, PrsAt H xs ps → xs[i]? = some v → ∃ t q, ps[i]? = some q ∧ v = .ref t ∧ H t = some (.tup [.int q.1, .int q.2])
  | [], _, _, _, _, e => by simp at e
  | _ :: _, [], _, _, h, _ => h.elim
  | _ :: _, q :: _, 0, v, ⟨⟨t, e, h⟩, _⟩, ev => by
    rw [List.getElem?_cons_zero] at ev
    cases ev
    exact ⟨t, q, rfl, e, h⟩
  | _ :: xs, _ :: ps, i + 1, v, ⟨_, r⟩, ev => by
    rw [List.getElem?_cons_succ] at ev ⊢
    exact prs_get r ev
theorem filter_step {α : Type} {f : α → Bool} {l : List α} {i : Nat} {x : α} (h : l[i]? = some x) : (l.take (i + 1)).filter f = (l.take i).filter f ++ (if f x = true then [x] else []) := by
  rw [List.take_add_one, h, List.filter_append]
  congr 1
  show [x].filter f = _
  rw [List.filter_cons]
  rfl

/-! ### dicts of addresses -/
def kA (p : Int × Addr) : Key × V := (.inl p.1, .ref p.2)
theorem val_rep {w : Int} {a : Addr} : ∀ {rep : List (Int × Addr)}, (rep.map (·.1)).Nodup → (w, a) ∈ rep → valV (rep.map kA) (.inl w) = some (.ref a)
  | p :: rep, n, h => by
    rw [List.map_cons, List.nodup_cons] at n
    rcases List.mem_cons.mp h with e | h
    · rw [← e, List.map_cons]
      exact valV_pos rfl
    · rw [List.map_cons, valV_neg (fun z => ?_)]
      · exact val_rep n.2 h
      · have z : (Sum.inl p.1 : Key) = .inl w := z
        injection z with z
        exact n.1 (by rw [z]; exact List.mem_map.mpr ⟨_, h, rfl⟩)
theorem val_none {w : Int} : ∀ {rep : List (Int × Addr)}, w ∉ rep.map (·.1) → valV (rep.map kA) (.inl w) = none
  | [], _ => rfl
  | p :: rep, h => by
    rw [List.map_cons, List.mem_cons, not_or] at h
    rw [List.map_cons, valV_neg (fun z => ?_)]
    · exact val_none h.2
    · have z : (Sum.inl p.1 : Key) = .inl w := z
      injection z with z
      exact h.1 z.symm
theorem put_new {w : Int} {a : Addr} {rep : List (Int × Addr)} (h : w ∉ rep.map (·.1)) : putK (rep.map kA) (.inl w) (.ref a) = (rep ++ [(w, a)]).map kA := by
  rw [putK_new _ (val_none h), List.map_append]
  rfl
theorem snoc_int {l : List Int} {n : Int} : l.map V.int ++ [V.int n] = (l ++ [n]).map V.int := by
  rw [List.map_append]
  rfl
theorem kp_set {H : Hp} {d : Addr} {u v : HO} (h : H d = some u) (nu : ¬ Fix u) : Kp [d] H (upd H d v) := Kp.mut h nu (List.mem_singleton.mpr rfl)

/-! ### dicts from worlds to numbers -/
def okN (n : Int) : Prop := -1000000000000000000000000000000000000000000000000000000000000 ≤ n ∧ n ≤ 1000000000000000000000000000000000000000000000000000000000000
def kN (q : Int × Int) : Key × V := (.inl q.1, .int q.2)
theorem valN_none {w : Int} : ∀ {ps : List (Int × Int)}, w ∉ ps.map (·.1) → valV (ps.map kN) (.inl w) = none
  | [], _ => rfl
  | p :: ps, h => by
    rw [List.map_cons, List.mem_cons, not_or] at h
    rw [List.map_cons, valV_neg (fun z => ?_)]
    · exact valN_none h.2
    · have z : (Sum.inl p.1 : Key) = .inl w := z
      injection z with z
      exact h.1 z.symm
theorem merge_kN : ∀ (ps acc : List (Int × Int)), ((acc ++ ps).map (·.1)).Nodup → mergeK (acc.map kN) (ps.map kN) = (acc ++ ps).map kN
  | [], acc, _ => by rw [List.append_nil]; rfl
  | q :: ps, acc, h => by
    have e : (acc ++ q :: ps) = (acc ++ [q]) ++ ps := by rw [List.append_assoc]; rfl
    have n : q.1 ∉ acc.map (·.1) := fun z => by
      rw [List.map_append, List.map_cons] at h
      exact (List.nodup_append.mp h).2.2 q.1 z q.1 List.mem_cons_self rfl
    have ih := merge_kN ps (acc ++ [q]) (by rw [← e]; exact h)
    have p : putK (acc.map kN) (kN q).1 (kN q).2 = (acc ++ [q]).map kN := by
      show putK (acc.map kN) (.inl q.1) (.int q.2) = _
      rw [putK_new _ (valN_none n), List.map_append]
      rfl
    rw [e, ← ih, ← p]
    rfl
theorem prs_refs {K : PySem.W.Frag} {H : Hp} : ∀ {xs : List V} {ps : List (Int × Int)}, PrsAt H xs ps → ∃ ts : List Addr, xs = ts.map V.ref ∧ Paired (fun p kv => SqT K H p [kV kv.1, kv.2]) ts (ps.map kN)
  | [], [], _ => ⟨[], rfl, .nil⟩
  | _ :: _, q :: _, ⟨⟨t, e, h⟩, r⟩ => by
    obtain ⟨ts, rfl, hp⟩ := prs_refs (K := K) r
    subst e
    exact ⟨t :: ts, rfl, .cons (SqT.of h) hp⟩
  | [], _ :: _, h => h.elim
  | _ :: _, [], h => h.elim
def rDictP (K : PySem.W.Frag) : List V → Hp → VK → Prop := fun xs H Q => ∃ (a : Addr) (ps : List Addr) (kvs : List (Key × V)), xs = [.ref a] ∧ SqL K H a (ps.map V.ref) ∧ Paired (fun p kv => SqT K H p [kV kv.1, kv.2]) ps kvs ∧
    ∀ p, H p = none → Q (.ref p) (upd H p (.dK (mergeK [] kvs)))
theorem k_dictP {X : Cx} {K : PySem.W.Frag} (h : X.K = K) (hcalm : X.calm = true) : CallR X (.type "dict") (rDictP K) := h ▸ call_dictP hcalm
theorem i_dictPrs {K : PySem.W.Frag} {H : Hp} {Q : VK} {a : Addr} {xs : List V} {ps : List (Int × Int)} (h : H a = some (.lst xs)) (px : PrsAt H xs ps) (nd : (ps.map (·.1)).Nodup) (q : New H fun p => Q (.ref p) (upd H p (.dK (ps.map kN)))) : rDictP K [.ref a] H Q := by
  obtain ⟨ts, rfl, hp⟩ := prs_refs (K := K) px
  refine ⟨a, ts, ps.map kN, rfl, SqL.of h, hp, fun p hp => ?_⟩
  have e := merge_kN ps [] nd
  rw [List.map_nil] at e
  rw [e]
  exact q p hp
def look (ps : List (Int × Int)) (w : Int) : Int := ((ps.find? fun q => decide (q.1 = w)).map (·.2)).getD 0
theorem look_mem {w : Int} : ∀ {ps : List (Int × Int)}, w ∈ ps.map (·.1) → (w, look ps w) ∈ ps ∧ valV (ps.map kN) (.inl w) = some (.int (look ps w))
  | [], h => nomatch h
  | p :: ps, h => by
    by_cases c : p.1 = w
    · have e : look (p :: ps) w = p.2 := by
        unfold look
        rw [List.find?_cons, decide_eq_true c]
        rfl
      rw [e, List.map_cons, valV_pos (show (kN p).1 = .inl w by rw [← c]; rfl)]
      exact ⟨by rw [← c]; exact List.mem_cons_self, rfl⟩
    · have e : look (p :: ps) w = look ps w := by
        unfold look
        rw [List.find?_cons, decide_eq_false c]
      rw [List.map_cons, List.mem_cons] at h
      obtain ⟨h1, h2⟩ := look_mem (h.resolve_left fun z => c z.symm)
      rw [e, List.map_cons, valV_neg (fun z => ?_)]
      · exact ⟨List.mem_cons_of_mem _ h1, h2⟩
      · have z : (Sum.inl p.1 : Key) = .inl w := z
        injection z with z
        exact c z
theorem look_eq {w n : Int} {ps : List (Int × Int)} (nd : (ps.map (·.1)).Nodup) (h : (w, n) ∈ ps) : look ps w = n := by
  have m : w ∈ ps.map (·.1) := List.mem_map.mpr ⟨_, h, rfl⟩
  obtain ⟨h1, _⟩ := look_mem m
  have inj : ∀ {ps : List (Int × Int)}, (ps.map (·.1)).Nodup → ∀ {w a b : Int}, (w, a) ∈ ps → (w, b) ∈ ps → a = b := by
    intro ps
    induction ps with
    | nil => intro _ w a b h; cases h
    | cons p ps ih =>
      intro nd w a b ha hb
      rw [List.map_cons, List.nodup_cons] at nd
      rcases List.mem_cons.mp ha with e1 | h1 <;> rcases List.mem_cons.mp hb with e2 | h2
      · rw [← e1] at e2
        exact (congrArg Prod.snd e2).symm
      · exact absurd (List.mem_map.mpr ⟨_, h2, by rw [← e1]⟩) nd.1
      · exact absurd (List.mem_map.mpr ⟨_, h1, by rw [← e2]⟩) nd.1
      · exact ih nd.2 h1 h2
  exact inj nd h1 h
theorem k_max1 {X : Cx} {K : PySem.W.Frag} (h : X.K = K) (hc : X.calm = true) : CallR X (.builtin "max") (rMax K) := h ▸ cr_max hc
theorem i_pw9 {H : Hp} {Q : VK} (h : Q (.int 1000000000) H) : rPow (.int 10) (.int 9) H Q := pow_go rfl (by decide) h
theorem i_pw40 {H : Hp} {Q : VK} (h : Q (.int 10000000000000000000000000000000000000000) H) : rPow (.int 10) (.int 40) H Q := pow_go rfl (by decide) h
theorem i_pw50 {H : Hp} {Q : VK} (h : Q (.int 100000000000000000000000000000000000000000000000000) H) : rPow (.int 10) (.int 50) H Q := pow_go rfl (by decide) h
theorem cutV_upto {xs : List V} {n : Nat} : cutV xs none (some (n : Int)) = xs.take n := by
  unfold cutV
  rw [HT.sIx_none, HT.sIx_nat, List.drop_zero, Nat.sub_zero, List.take_eq_take_iff]
  omega
theorem cutV_on {xs : List V} {k : Nat} : cutV xs (some (k : Int)) none = xs.drop k := by
  unfold cutV
  rw [HT.sIx_none, HT.sIx_nat]
  by_cases c : k ≤ xs.length
  · rw [Nat.min_eq_left c]
    exact List.take_of_length_le (by rw [List.length_drop]; omega)
  · rw [Nat.min_eq_right (by omega), List.drop_length, List.drop_of_length_le (by omega)]
    simp
theorem cutV_but {xs : List V} {x : V} : cutV (xs ++ [x]) none (some (-1)) = xs := by
  unfold cutV
  rw [HT.sIx_none]
  have e : HT.sIx (xs ++ [x]).length (xs ++ [x]).length (some (-1)) = xs.length := by
    show (if (-1 : Int) < 0 then ((-1 : Int) + ((xs ++ [x]).length : Int)).toNat else min (-1 : Int).toNat (xs ++ [x]).length) = xs.length
    rw [if_pos (by decide), List.length_append, List.length_singleton]
    omega
  rw [e, List.drop_zero, Nat.sub_zero, List.take_left']
  rfl
theorem prs_split {H : Hp} {q : Int × Int} : ∀ {xs : List V} {ps : List (Int × Int)}, PrsAt H xs (ps ++ [q]) → ∃ ys t, xs = ys ++ [.ref t] ∧ PrsAt H ys ps ∧ H t = some (.tup [.int q.1, .int q.2])
  | [], [], h => h.elim
  | [], _ :: _, h => h.elim
  | x :: xs, [], h => by
    obtain ⟨⟨t, e, h1⟩, h2⟩ := h
    cases xs with
    | nil => exact ⟨[], t, by rw [e]; rfl, trivial, h1⟩
    | cons y ys => exact h2.elim
  | x :: xs, p :: ps, ⟨h1, h2⟩ => by
    obtain ⟨ys, t, e, a, b⟩ := prs_split h2
    exact ⟨x :: ys, t, by rw [e]; rfl, ⟨h1, a⟩, b⟩
theorem map_one {l : List V} {ns : List Int} (h : l = ns.map V.int) : ∀ v ∈ l, ∃ n ∈ ns, v = .int n := fun v hv => by
  rw [h] at hv
  obtain ⟨n, hn, e⟩ := List.mem_map.mp hv
  exact ⟨n, hn, e.symm⟩
theorem pair_mem {H : Hp} {U : Addr} {n m : Int} (h : H U = some (.tup [.int n, .int m])) : H U = some (.tup [.int (n, m).1, .int (n, m).2]) := h

/-! ### a set comprehension whose elements are numbers -/
section
open PySem.Calls PyProof.Rows PySem.Spec PyProof
variable {X : Cx}
/-- one number more goes into the set at D -/
def InSet (w : World) (D : Addr) (goOn : Hp → Prop) : VK := fun y Hy => ∃ (k : Int) (S : Int → Bool) (c : Nat), y = .int k ∧ Hy D = some (L2.SetO w D S c) ∧ c + 1 < scanBound ∧
  goOn (upd Hy D (L2.SetO w D (fun j => S j || decide (j = k)) (if S k = true then c else c + 1)))
/-- one turn of the comprehension's loop -/
def SetTurn (w : World) (J : It) (g : TG) (tt : TT) (te : TE) (vs : List Nat) (σ : L2.St) (D : Addr) (Wk : Nat → Nat → Hp → Prop) (j n : Nat) (Hw : Hp) : Prop :=
  J.go j Hw ∧ ∃ goOn : Hp → Prop, (∀ Hn, goOn Hn → ∃ n', n' < n ∧ Wk (j + 1) n' Hn) ∧
    ∀ x Hx, J.yld j Hw x Hx → g x (wipe σ vs) Hx fun τ Hg => wipe τ vs = wipe σ vs ∧ tt τ Hg fun b Ht => if b = true then te τ Ht (InSet w D goOn) else goOn Ht
def tScI (w : World) (wi : TI) (g : TG) (tt : TT) (te : TE) (vs : List Nat) : TE := fun σ H Q => wi σ H fun J Hi => ∀ D, Hi D = none →
  ∃ Wk : Nat → Nat → Hp → Prop, (∃ n, Wk 0 n (upd Hi D (L2.SetO w D (fun _ => false) 0))) ∧ ∀ j n Hw, Wk j n Hw → (J.stop j Hw ∧ Q (.ref D) Hw) ∨ SetTurn w J g tt te vs σ D Wk j n Hw
/-- the object that a new set is -/
abbrev setBorn (w : World) : Obj := { cls := .type "set", dict := none, data := .set #[] 0 (.fresh 0 0 (!w.params.followText "set-order")) }
abbrev setGrown (w : World) (s : Shared) : Shared := { s with heap := s.heap.push (setBorn w) }
theorem set_born {pins : List (Addr × Obj)} {σ : L2.St} {H : Hp} {s : Shared} (I : Inv X pins σ H s) :
    Inv X pins σ (upd H s.heap.objs.size (L2.SetO X.w s.heap.objs.size (fun _ => false) 0)) (setGrown X.w s) :=
  I.laid (t' := s.toks) (fun _ _ e => Heap.get?_push_of_some _ e) (Nat.le_refl _) (L2.setO_new (L2.setR_fresh X.w))
theorem set_more {pins : List (Addr × Obj)} {σ : L2.St} {H : Hp} {s : Shared} {D : Addr} {y : V} {u : Value} {goOn : Hp → Prop} (I : Inv X pins σ H s) (r : RelV y u) (h : InSet X.w D goOn y H) (E : Value → Shared → Prop) :
    wpAny (model X.prog X.w) X.A (call (.builtin "set.add") [.ref D, u]) (fun _ s' => ∃ H', Inv X pins σ H' s' ∧ goOn H') E s := by
  obtain ⟨k, S, c, rfl, hD, lc, nx⟩ := h
  obtain ⟨tk, rfl⟩ := r
  refine L2.setR_add (L2.setO_get I hD) lc fun h' same R => ⟨_, I.write (e := D) (t' := s.toks + 1) (by rw [hD]; trivial) (.inl rfl) (fun b o hb e => (same.2 b hb).trans e) ?_ (L2.setO_new R), nx⟩
  obtain ⟨o, _, _, _, e, _⟩ := R
  exact ⟨o, e⟩
/-- the loop, in its own block B -/
theorem set_loop {elt tg iter : Expr} {ifs : List Expr} {scope : Scope} {pos : Pos} {vs : List Nat} {g : TG} {tt : TT} {te : TE} {σ : L2.St} {Q : VK} {B : Cx} {J : It} {fp : List Addr} {it D : Addr} {tn : Nat → Heap → Prop} {Wk : Nat → Nat → Hp → Prop} {R : Result → Shared → Prop}
    (calm : B.calm = true) (quiet : ∀ e s', B.xe e s' → False) (T : Turn B.prog B.w B.K tg J fp it tn) (pg : PG B tg g) (pt : PTs B ifs tt) (pe : PE B elt te)
    (away : ∀ {τ : L2.St} {H' : Hp} {s' : Shared}, Inv B [] τ H' s' → (∀ b ∈ fp, H' b = none) → ∀ b ∈ fp, FpOk B [] H' b)
    (out : ∀ H' s', Inv B [] (wipe σ vs) H' s' → Q (.ref D) H' → R (.ok .next) s')
    (turns : ∀ j n Hw, Wk j n Hw → (J.stop j Hw ∧ Q (.ref D) Hw) ∨ SetTurn B.w J g tt te vs σ D Wk j n Hw)
    {n0 : Nat} {H0 : Hp} {s0 : Shared} (I0 : Inv B [] (wipe σ vs) H0 s0) (t0 : tn 0 s0.heap) (f0 : ∀ b ∈ fp, H0 b = none) (w0 : Wk 0 n0 H0) :
    codeAny (model B.prog B.w) B.A (.compLoop (.SetComp elt [⟨tg, iter, ifs, 0⟩] scope pos) 0 (.ref it) (.ref D) B.env) R s0 := by
  refine PpSet.compLoopS_any (fun n s' => ∃ j H', Inv B [] (wipe σ vs) H' s' ∧ tn j s'.heap ∧ (∀ b ∈ fp, H' b = none) ∧ Wk j n H') ?_ n0 ⟨0, H0, I0, t0, f0, w0⟩
  rintro n s1 ⟨j, H1, I1, t1, f1, w1⟩
  rcases turns j n H1 w1 with ⟨halt, q⟩ | ⟨go, goOn, dec, step⟩
  · refine thnF (T.done B rfl rfl rfl calm j [] s1 _ H1 (fun _ _ => False) I1 (away I1 f1) t1 halt) fun r s2 z => ?_
    obtain ⟨e, I2⟩ := z
    rw [e]
    exact out H1 s2 I2 q
  · refine thnF (T.item B rfl rfl rfl calm j [] s1 _ H1 (fun _ _ => False) I1 (away I1 f1) t1 go) fun r s2 z => ?_
    obtain ⟨u, e, z⟩ := z
    rw [e]
    refine thnF z fun _ s3 ⟨x, H3, I3, rx, yx, t3, f3⟩ => ?_
    have J3 := I3.pinned (away I3 f3) (T.obj _ _ t3)
    refine wpAny_mono (pg.run _ s3 _ H3 x u _ J3 rx (step x H3 yx)) (fun _ s4 z4 => ?_) fun e s' z => (quiet e s' z).elim
    obtain ⟨τ, H4, I4, e4, q4⟩ := z4
    refine wpAny_mono (pt.run _ s4 τ H4 _ I4 q4) (fun b s5 z5 => ?_) fun e s' z => (quiet e s' z).elim
    obtain ⟨H5, I5, q5⟩ := z5
    have back : ∀ {s' : Shared} {H' : Hp}, Inv B ([] ++ pinsAt fp s3.heap) τ H' s' → goOn H' → ∃ n', n' < n ∧ ∃ j H', Inv B [] (wipe σ vs) H' s' ∧ tn j s'.heap ∧ (∀ b ∈ fp, H' b = none) ∧ Wk j n' H' := fun {s' H'} I' gn => by
      obtain ⟨n', ln, w'⟩ := dec H' gn
      have held : ∀ b ∈ fp, ∀ o, s3.heap.get? b = some o → s'.heap.get? b = some o ∧ H' b = none := fun b hb o eo => by
        have z := I'.pin (b, o) (List.mem_append_right _ (List.mem_append_right _ (mem_pinsAt hb eo)))
        exact ⟨z.1, z.2.1⟩
      refine ⟨n', ln, j + 1, H', (I'.unpinned (pins := [])).weak (by rw [← e4, wipe_length]) (fun i v ei => ?_), T.keep _ _ _ t3 (fun b hb o eo => (held b hb o eo).1), fun b hb => ?_, w'⟩
      · rw [← e4] at ei
        exact (wipe_some ei).1
      · obtain ⟨o, eo, _⟩ := T.obj _ _ t3 b hb
        exact (held b hb o eo).2
    by_cases c : b = true
    · rw [if_pos c] at q5 ⊢
      refine wpAny_mono (pe.run _ s5 τ H5 _ I5 q5) (fun v s6 z6 => ?_) fun e s' z => (quiet e s' z).elim
      obtain ⟨y, H6, I6, ry, q6⟩ := z6
      exact thn (set_more I6 ry q6 _) fun _ s7 ⟨H7, I7, q7⟩ => back I7 q7
    · rw [if_neg c] at q5 ⊢
      exact back I5 q5
theorem pe_scI {elt tg iter : Expr} {ifs : List Expr} {scope : Scope} {own : List (PySem.Str × Nat)} {pos : Pos} {wi : TI} {g : TG} {tt : TT} {te : TE} (hc : X.calm = true) (nodup : X.N.Nodup) (walked : PI X tg iter wi) (blk : BlkOk X.N X.env.scope scope own)
    (pg : ∀ (t : Shared) (G : Hp) (C : Addr) (cells : List (PySem.Str × Addr)) (ps : List Addr), PG (X.blk t G scope (compEnvC scope cells C X.env) ps) tg g) (pt : ∀ (t : Shared) (G : Hp) (C : Addr) (cells : List (PySem.Str × Addr)) (ps : List Addr), PTs (X.blk t G scope (compEnvC scope cells C X.env) ps) ifs tt)
    (pe : ∀ (t : Shared) (G : Hp) (C : Addr) (cells : List (PySem.Str × Addr)) (ps : List Addr), PE (X.blk t G scope (compEnvC scope cells C X.env) ps) elt te) (unfolded : ∀ x, foldedSetIterable iter X.env x = pure x := by intro _; rfl) :
    PE X (.SetComp elt [⟨tg, iter, ifs, 0⟩] scope pos) (tScI X.w wi g tt te (own.map (·.2))) := by
  refine ⟨fun pins s σ H Q I q0 => ?_⟩
  rw [PpSet.eval_SetComp]
  have caught : ∀ y ∈ scope.names, y.2 = .free → ∃ c, X.env.cells.lookup y.1 = some c := fun y hy e => (blk.free y hy e).elim (fun k => I.ok.has _ (.inl k)) fun k => I.ok.has _ (.inr k)
  refine wpAny_comprehension_free (use := none) rfl unfolded (closure_ok caught) blk.kind (fun y hy e => (blk.uniq y hy).trans (congrArg some e)) (thn (walked.run pins s σ H _ I q0) fun _ _ z1 => thn z1 fun _ s2 z2 => ?_)
  obtain ⟨it, fp, tn, J, H2, eit, I2, T, t2, f2, q⟩ := z2
  rw [eit]
  refine PpSet.newSet_ok (newEnv_comp ?_)
  obtain ⟨Wk, ⟨n0, w0⟩, turns⟩ := q s2.heap.objs.size (I2.hok.fresh (Nat.le_refl _))
  have I3 := set_born I2
  have older : ∀ b ∈ fp, b < s2.heap.objs.size := fun b hb => by
    obtain ⟨o, e, _⟩ := T.obj _ _ t2 b hb
    exact Heap.lt_size e
  have apart : ∀ b ∈ fp, (upd H2 s2.heap.objs.size (L2.SetO X.w s2.heap.objs.size (fun _ => false) 0)) b = none := fun b hb => (upd_ne (Nat.ne_of_lt (older b hb))).trans (f2 b hb).1
  have size3 : (setGrown X.w s2).heap.objs.size = s2.heap.objs.size + 1 := Heap.size_push ..
  have f3 : ∀ b ∈ fp, FpOk X pins (upd H2 s2.heap.objs.size (L2.SetO X.w s2.heap.objs.size (fun _ => false) 0)) b ∧ b < (setGrown X.w s2).heap.objs.size := fun b hb =>
    ⟨⟨apart b hb, (f2 b hb).2⟩, by rw [size3]; exact Nat.lt_succ_of_lt (older b hb)⟩
  have I4 := block_start I3 blk nodup f3
  have t3 : tn 0 (setGrown X.w s2).heap := T.keep _ _ _ t2 fun b _ o e => Heap.get?_push_of_some _ e
  have t4 : tn 0 (pushCells ((setGrown X.w s2).heap.push { cls := .type "dict", data := .dict #[] }) scope.names) := T.keep _ _ _ t3 fun b _ o e => pushCells_keeps _ _ _ _ (Heap.get?_push_of_some _ e)
  have whole := set_loop (R := compPost (model X.prog X.w) X.A X.xe none (EP X pins σ Q) (.ref s2.heap.objs.size) (setGrown X.w s2).heap.objs.size) (Q := Q) (scope := scope) (elt := elt) (iter := iter) (pos := pos) (D := s2.heap.objs.size)
    (B := X.blk (setGrown X.w s2) (upd H2 s2.heap.objs.size (L2.SetO X.w s2.heap.objs.size (fun _ => false) 0)) scope (compEnvC scope (cellsFrom ((setGrown X.w s2).heap.objs.size + 1) scope.names (cloFrom X.env.cells scope.names [])) (setGrown X.w s2).heap.objs.size X.env) fp)
    hc (fun _ _ z => z) T (pg _ _ _ _ _) (pt _ _ _ _ _) (pe _ _ _ _ _) (fun {τ H' s'} Iw nw b hb => ⟨nw b hb, (Iw.ok.exf b hb).1, Iw.ok.exfs b hb, .inl hb, (Iw.ok.exf b hb).2, fun p hp => by cases hp⟩) (fun H' s' Iw qw => ?_) turns I4 t4 apart w0
  · exact PpSet.codeAny_compStart_set whole (T.self X.A 0 _ _ _ t4 whole)
  · obtain ⟨m, named, _⟩ := Iw.loc
    have Ix : Inv X pins σ H' s' := I3.call' (ch := fp) Iw.os Iw.base Iw.hok Iw.bare fun b hb => by
      obtain ⟨_, a1, _, a3, a4, a5⟩ := (f3 b hb).1
      exact ⟨a3, a1, a4, a5⟩
    have gone : H' (setGrown X.w s2).heap.objs.size = none := Iw.free
    obtain ⟨b0, b1, b2, b3, b4, b5⟩ := I3.fpOk (Nat.le_refl _) gone
    exact ⟨m, named, fun h' same => ⟨.ref s2.heap.objs.size, H', Ix.turned (t' := s'.toks) (fun b o hb e => (same.2 b hb).trans e) b0 b1 b3 b4 b5, rfl, qw⟩⟩
theorem k_scI {w : World} {elt tg iter : Expr} {ifs : List Expr} {scope : Scope} {own : List (PySem.Str × Nat)} {pos : Pos} {wi : TI} {g : TG} {tt : TT} {te : TE} (hw : X.w = w) (hc : X.calm = true) (nodup : X.N.Nodup) (walked : PI X tg iter wi) (blk : BlkOk X.N X.env.scope scope own)
    (pg : ∀ (t : Shared) (G : Hp) (C : Addr) (cells : List (PySem.Str × Addr)) (ps : List Addr), PG (X.blk t G scope (compEnvC scope cells C X.env) ps) tg g) (pt : ∀ (t : Shared) (G : Hp) (C : Addr) (cells : List (PySem.Str × Addr)) (ps : List Addr), PTs (X.blk t G scope (compEnvC scope cells C X.env) ps) ifs tt)
    (pe : ∀ (t : Shared) (G : Hp) (C : Addr) (cells : List (PySem.Str × Addr)) (ps : List Addr), PE (X.blk t G scope (compEnvC scope cells C X.env) ps) elt te) (unfolded : ∀ x, foldedSetIterable iter X.env x = pure x := by intro _; rfl) :
    PE X (.SetComp elt [⟨tg, iter, ifs, 0⟩] scope pos) (tScI w wi g tt te (own.map (·.2))) := hw ▸ pe_scI hc nodup walked blk pg pt pe unfolded
end
/-! ### over the values of a dict -/
section
variable {w : World} {σ : L2.St} {H H1 : Hp} {Q : VK} {d : Addr} {g : TG} {tt : TT} {te td : TE} {vs : List Nat} {o : Obj} {kvs : List (Key × V)} {D : Ends} {tb : TS}
def LcV (x : V) (g : TG) (tt : TT) (te : TE) (vs : List Nat) (σ : L2.St) (H1 : Hp) (Q : VK) : Prop := ∃ d o kvs, x = .ref d ∧ H1 d = some (.frz o (.dK kvs)) ∧ ∀ R, H1 R = none → ∃ W : Nat → Nat → Hp → Prop, (∃ m, W 0 m (upd H1 R (.lst []))) ∧ ∀ i m H, W i m H →
  ((Itd d o kvs).stop i H ∧ Q (.ref R) H) ∨ ((Itd d o kvs).go i H ∧ ∃ Nx : Hp → Prop, (∀ H', Nx H' → ∃ m', m' < m ∧ W (i + 1) m' H') ∧ ∀ x H', (Itd d o kvs).yld i H x H' → g x (wipe σ vs) H' fun σ2 H2 => wipe σ2 vs = wipe σ vs ∧ tt σ2 H2 fun b H3 =>
    if b = true then te σ2 H3 fun y H4 => ∃ acc, H4 R = some (.lst acc) ∧ acc.length < sizeLine ∧ Nx (upd H4 R (.lst (acc ++ [y]))) else Nx H3)
theorem i_lcV (h : td σ H fun x H1 => LcV x g tt te vs σ H1 Q) : tLc (iVals td) g tt te vs σ H Q := h
theorem i_valG (hd : H d = some (.frz o (.dK kvs))) (Pv : Addr → Nat → Hp → Prop)
    (h0 : ∀ R, Fr H R → Pv R 0 (upd H R (.lst [])))
    (hl : ∀ R i H', Fr H R → Pv R i H' → H' d = some (.frz o (.dK kvs)))
    (st : ∀ R i k v H', Fr H R → kvs[i]? = some (k, v) → Pv R i H' → g v (wipe σ vs) H' fun σ2 H2 =>
      wipe σ2 vs = wipe σ vs ∧ tt σ2 H2 fun b H3 => if b = true then te σ2 H3 fun y H4 =>
        ∃ acc, H4 R = some (.lst acc) ∧ acc.length < sizeLine ∧ Pv R (i + 1) (upd H4 R (.lst (acc ++ [y])))
        else Pv R (i + 1) H3)
    (hdn : ∀ R H', Fr H R → Pv R kvs.length H' → Q (.ref R) H') : LcV (.ref d) g tt te vs σ H Q := by
  refine ⟨d, o, kvs, rfl, hd, fun R hR => ⟨fun i m H' => m = kvs.length - i ∧ i ≤ kvs.length ∧ Pv R i H', ⟨_, rfl, Nat.zero_le _, h0 R ⟨hR⟩⟩, ?_⟩⟩
  rintro i m H' ⟨rfl, hi, z⟩
  have q := hl R i H' ⟨hR⟩ z
  by_cases c : i < kvs.length
  · refine .inr ⟨⟨q, c⟩, Pv R (i + 1), fun H2 w => ⟨_, by omega, rfl, c, w⟩, ?_⟩
    rintro x H2 ⟨rfl, k, e⟩
    exact st R i k x _ ⟨hR⟩ e z
  · have e : i = kvs.length := by omega
    exact .inl ⟨⟨q, by omega⟩, hdn R H' ⟨hR⟩ (by rw [← e]; exact z)⟩
/-- the pairs of a dict, as a comprehension -/
def LcIt (x : V) (g : TG) (tt : TT) (te : TE) (vs : List Nat) (σ : L2.St) (H1 : Hp) (Q : VK) : Prop := ∃ d o kvs, x = .ref d ∧ H1 d = some (.frz o (.dK kvs)) ∧ ∀ R, H1 R = none → ∃ W : Nat → Nat → Hp → Prop, (∃ m, W 0 m (upd H1 R (.lst []))) ∧ ∀ i m H, W i m H →
  ((Iti d o kvs).stop i H ∧ Q (.ref R) H) ∨ ((Iti d o kvs).go i H ∧ ∃ Nx : Hp → Prop, (∀ H', Nx H' → ∃ m', m' < m ∧ W (i + 1) m' H') ∧ ∀ x H', (Iti d o kvs).yld i H x H' → g x (wipe σ vs) H' fun σ2 H2 => wipe σ2 vs = wipe σ vs ∧ tt σ2 H2 fun b H3 =>
    if b = true then te σ2 H3 fun y H4 => ∃ acc, H4 R = some (.lst acc) ∧ acc.length < sizeLine ∧ Nx (upd H4 R (.lst (acc ++ [y]))) else Nx H3)
theorem i_lcIt (h : td σ H fun x H1 => LcIt x g tt te vs σ H1 Q) : tLc (iItems td) g tt te vs σ H Q := h
theorem i_pairG (hd : H d = some (.frz o (.dK kvs))) (Pv : Addr → Nat → Hp → Prop)
    (h0 : ∀ R, Fr H R → Pv R 0 (upd H R (.lst [])))
    (hl : ∀ R i H', Fr H R → Pv R i H' → H' d = some (.frz o (.dK kvs)))
    (st : ∀ R i k v T H', Fr H R → kvs[i]? = some (k, v) → Pv R i H' → Fr H' T → g (.ref T) (wipe σ vs) (upd H' T (.tup [kV k, v])) fun σ2 H2 =>
      wipe σ2 vs = wipe σ vs ∧ tt σ2 H2 fun b H3 => if b = true then te σ2 H3 fun y H4 =>
        ∃ acc, H4 R = some (.lst acc) ∧ acc.length < sizeLine ∧ Pv R (i + 1) (upd H4 R (.lst (acc ++ [y])))
        else Pv R (i + 1) H3)
    (hdn : ∀ R H', Fr H R → Pv R kvs.length H' → Q (.ref R) H') : LcIt (.ref d) g tt te vs σ H Q := by
  refine ⟨d, o, kvs, rfl, hd, fun R hR => ⟨fun i m H' => m = kvs.length - i ∧ i ≤ kvs.length ∧ Pv R i H', ⟨_, rfl, Nat.zero_le _, h0 R ⟨hR⟩⟩, ?_⟩⟩
  rintro i m H' ⟨rfl, hi, z⟩
  have q := hl R i H' ⟨hR⟩ z
  by_cases c : i < kvs.length
  · refine .inr ⟨⟨q, c⟩, Pv R (i + 1), fun H2 w => ⟨_, by omega, rfl, c, w⟩, ?_⟩
    rintro x H2 ⟨T, k, v, e, rfl, hT, rfl⟩
    exact st R i k v T _ ⟨hR⟩ e z ⟨hT⟩
  · have e : i = kvs.length := by omega
    exact .inl ⟨⟨q, by omega⟩, hdn R H' ⟨hR⟩ (by rw [← e]; exact z)⟩
/-- the pairs of a dict, as a loop -/
def ForIt (x : V) (g : TG) (tb : TS) (D : Ends) (σ : L2.St) (H1 : Hp) : Prop := ∃ d o kvs, x = .ref d ∧ H1 d = some (.frz o (.dK kvs)) ∧ ∃ W : Nat → Nat → L2.St → Hp → Prop, (∃ m, W 0 m σ H1) ∧ ∀ i m σ H, W i m σ H →
  ((Iti d o kvs).stop i H ∧ D.nx σ H) ∨ ((Iti d o kvs).go i H ∧ ∃ N : L2.St → Hp → Prop, (∀ σ' H', N σ' H' → ∃ m', m' < m ∧ W (i + 1) m' σ' H') ∧ ∀ x H', (Iti d o kvs).yld i H x H' → g x σ H' fun σ2 H2 => tb { D with nx := N, ct := N, bk := D.nx } σ2 H2)
theorem i_forIt (h : td σ H fun x H1 => ForIt x g tb D σ H1) : tFor (iItems td) g tb D σ H := h
theorem i_eachIt (hd : H d = some (.frz o (.dK kvs))) (Pv : Nat → L2.St → Hp → Prop) (h0 : Pv 0 σ H) (hl : ∀ i σ H', Pv i σ H' → H' d = some (.frz o (.dK kvs)))
    (st : ∀ i k v T σ H', kvs[i]? = some (k, v) → Pv i σ H' → Fr H' T → g (.ref T) σ (upd H' T (.tup [kV k, v])) fun σ2 H2 => tb { D with nx := Pv (i + 1), ct := Pv (i + 1), bk := D.nx } σ2 H2)
    (hdn : ∀ σ H', Pv kvs.length σ H' → D.nx σ H') : ForIt (.ref d) g tb D σ H := by
  refine ⟨d, o, kvs, rfl, hd, fun i m σ H' => m = kvs.length - i ∧ i ≤ kvs.length ∧ Pv i σ H', ⟨_, rfl, Nat.zero_le _, h0⟩, ?_⟩
  rintro i m σ H' ⟨rfl, hi, z⟩
  have q := hl i σ H' z
  by_cases c : i < kvs.length
  · refine .inr ⟨⟨q, c⟩, Pv (i + 1), fun σ2 H2 w => ⟨_, by omega, rfl, c, w⟩, ?_⟩
    rintro x H2 ⟨T, k, v, e, rfl, hT, rfl⟩
    exact st i k v T σ _ e z ⟨hT⟩
  · have e : i = kvs.length := by omega
    exact .inl ⟨⟨q, by omega⟩, hdn σ H' (by rw [← e]; exact z)⟩
/-- a set of the values -/
def ScV (w : World) (x : V) (g : TG) (tt : TT) (te : TE) (vs : List Nat) (σ : L2.St) (H1 : Hp) (Q : VK) : Prop := ∃ d o kvs, x = .ref d ∧ H1 d = some (.frz o (.dK kvs)) ∧ ∀ R, H1 R = none →
  ∃ Wk : Nat → Nat → Hp → Prop, (∃ n, Wk 0 n (upd H1 R (L2.SetO w R (fun _ => false) 0))) ∧ ∀ j n Hw, Wk j n Hw → ((Itd d o kvs).stop j Hw ∧ Q (.ref R) Hw) ∨ SetTurn w (Itd d o kvs) g tt te vs σ R Wk j n Hw
theorem i_scV (h : td σ H fun x H1 => ScV w x g tt te vs σ H1 Q) : tScI w (iVals td) g tt te vs σ H Q := h
theorem i_valS (hd : H d = some (.frz o (.dK kvs))) (Pv : Addr → Nat → Hp → Prop)
    (h0 : ∀ R, Fr H R → Pv R 0 (upd H R (L2.SetO w R (fun _ => false) 0)))
    (hl : ∀ R i H', Fr H R → Pv R i H' → H' d = some (.frz o (.dK kvs)))
    (st : ∀ R i k v H', Fr H R → kvs[i]? = some (k, v) → Pv R i H' → g v (wipe σ vs) H' fun σ2 H2 =>
      wipe σ2 vs = wipe σ vs ∧ tt σ2 H2 fun b H3 => if b = true then te σ2 H3 (InSet w R (Pv R (i + 1))) else Pv R (i + 1) H3)
    (hdn : ∀ R H', Fr H R → Pv R kvs.length H' → Q (.ref R) H') : ScV w (.ref d) g tt te vs σ H Q := by
  refine ⟨d, o, kvs, rfl, hd, fun R hR => ⟨fun i m H' => m = kvs.length - i ∧ i ≤ kvs.length ∧ Pv R i H', ⟨_, rfl, Nat.zero_le _, h0 R ⟨hR⟩⟩, ?_⟩⟩
  rintro i m H' ⟨rfl, hi, z⟩
  have q := hl R i H' ⟨hR⟩ z
  by_cases c : i < kvs.length
  · refine .inr ⟨⟨q, c⟩, Pv R (i + 1), fun H2 w => ⟨_, by omega, rfl, c, w⟩, ?_⟩
    rintro x H2 ⟨rfl, k, e⟩
    exact st R i k x _ ⟨hR⟩ e z
  · have e : i = kvs.length := by omega
    exact .inl ⟨⟨q, by omega⟩, hdn R H' ⟨hR⟩ (by rw [← e]; exact z)⟩
end

/-! ### a dict walked in a loop, asked with a default, made anew -/
theorem i_lockS {t : TS} {D : Ends} {σ : L2.St} {H : Hp} {d : Addr} {kvs : List (Key × V)} (h : H d = some (.dK kvs))
    (k : ∀ od, t ⟨fun σ' H' => H' d = some (.frz od (.dK kvs)) ∧ D.nx σ' (upd H' d (.dK kvs)), fun v H' => H' d = some (.frz od (.dK kvs)) ∧ D.rt v (upd H' d (.dK kvs)), fun σ' H' => H' d = some (.frz od (.dK kvs)) ∧ D.bk σ' (upd H' d (.dK kvs)), fun σ' H' => H' d = some (.frz od (.dK kvs)) ∧ D.ct σ' (upd H' d (.dK kvs))⟩ σ (upd H d (.frz od (.dK kvs)))) : tLock t D σ H := ⟨d, _, h, trivial, k⟩
theorem kp_unlW {ws : List Addr} {H3 H4 : Hp} {d : Addr} {u v : HO} (h : H3 d = some u) (nu : ¬ Fix u) (k : Kp ws (upd H3 d v) H4) (n : ∀ b, b ∈ ws → d ≠ b) : Kp ws H3 (upd H4 d u) := by
  refine ⟨fun a o e na => ?_, fun a o e f => ?_, fun a o e => ?_⟩
  · by_cases z : a = d
    · subst z
      rw [h] at e
      cases e
      exact upd_same
    · rw [upd_ne z]
      exact k.at_ a o (by rw [upd_ne z]; exact e) na
  · have z : a ≠ d := by
      intro z
      subst z
      rw [h] at e
      cases e
      exact nu f
    rw [upd_ne z]
    exact k.fix a o (by rw [upd_ne z]; exact e) f
  · by_cases z : a = d
    · exact ⟨u, by rw [z]; exact upd_same⟩
    · rw [upd_ne z]
      exact k.dom a o (by rw [upd_ne z]; exact e)
theorem i_dnewK {σ : L2.St} {H : Hp} {Q : VK} (h : New H fun p => Q (.ref p) (upd H p (.dK []))) : tDNewK σ H Q := h
def DG3 (a : Addr) (y z : V) (H : Hp) (Q : VK) : Prop := ∃ o, DGet H a y o ∧ Q (o.getD z) H
def DG2 (x : V) (ty tx : TE) (σ : L2.St) (H1 : Hp) (Q : VK) : Prop := ∃ a, x = .ref a ∧ IsD H1 a ∧ ty σ H1 fun y H2 => tx σ H2 fun z H3 => DG3 a y z H3 Q
theorem i_dget2 {td ty tx : TE} {σ : L2.St} {H : Hp} {Q : VK} (h : td σ H fun x H1 => DG2 x ty tx σ H1 Q) : tDGet2 td ty tx σ H Q := h
theorem i_dg2 {a : Addr} {kvs : List (Key × V)} {ty tx : TE} {σ : L2.St} {H : Hp} {Q : VK} (hd : H a = some (.dK kvs)) (h : ty σ H fun y H2 => tx σ H2 fun z H3 => DG3 a y z H3 Q) : DG2 (.ref a) ty tx σ H Q := ⟨a, rfl, .inl ⟨_, Rd.of hd⟩, h⟩
theorem i_dg3 {a : Addr} {kvs : List (Key × V)} {n : Int} {z : V} {H : Hp} {Q : VK} (hd : H a = some (.dK kvs)) (q : Q ((valV kvs (.inl n)).getD z) H) : DG3 a (.int n) z H Q := ⟨_, DGet.k (k := .inl n) hd, q⟩

/-! ### name = a dict comprehension, on one line -/
section
open PySem.Calls PyProof.Rows PySem.Spec PyProof
variable {X : Cx}
theorem ps_setDc {i : Nat} {nm : PySem.Str} {pn : Pos} {keyE valE tg iter : Expr} {ifs : List Expr} {scope : Scope} {own : List (PySem.Str × Nat)} {pos spos : Pos} {wi : TI} {g : TG} {tt : TT} {tk tv : TE} (calm : X.calm = true) (nodup : X.N.Nodup) (at_ : X.N[i]? = some nm) (loc : X.env.scope.names.lookup nm = some .local)
    (swaps : swapsWith (.DictComp keyE valE [⟨tg, iter, ifs, 0⟩] scope pos) (some (.Name nm pn)) spos.line X.env = pure true) (walked : PI X tg iter wi) (blk : BlkOk X.N X.env.scope scope own)
    (pg : ∀ (t : Shared) (G : Hp) (C : Addr) (cells : List (PySem.Str × Addr)) (ps : List Addr), PG (X.blk t G scope (compEnvC scope cells C X.env) ps) tg g) (pt : ∀ (t : Shared) (G : Hp) (C : Addr) (cells : List (PySem.Str × Addr)) (ps : List Addr), PTs (X.blk t G scope (compEnvC scope cells C X.env) ps) ifs tt)
    (pk : ∀ (t : Shared) (G : Hp) (C : Addr) (cells : List (PySem.Str × Addr)) (ps : List Addr), PE (X.blk t G scope (compEnvC scope cells C X.env) ps) keyE tk)
    (pv : ∀ (t : Shared) (G : Hp) (C : Addr) (cells : List (PySem.Str × Addr)) (ps : List Addr), PE (X.blk t G scope (compEnvC scope cells C X.env) ps) valE tv) (unfolded : ∀ x, foldedSetIterable iter X.env x = pure x := by intro _; rfl) :
    PS X (.Assign [.Name nm pn] (.DictComp keyE valE [⟨tg, iter, ifs, 0⟩] scope pos) spos) (tAsg (tDc wi g tt tk tv (own.map (·.2))) (gName i)) := by
  refine ⟨fun pins s σ H D I q0 => ?_⟩
  rw [exec_Assign_Name_used _ _ _ _ swaps]
  refine wpAny_bind (wpAny_standAt (wpAny_bind ?_))
  show wpAny _ X.A (do let _ ← comprehension (.DictComp keyE valE [⟨tg, iter, ifs, 0⟩] scope pos) scope X.env (firstIterPos [⟨tg, iter, ifs, 0⟩] pos) newDict false (eval iter X.env) (some (assign (.Name nm pn) X.env))) _ _ s
  have q1 : tDc wi g tt tk tv (own.map (·.2)) σ H (fun x H1 => gName i x σ H1 D.nx) := q0
  refine wpAny_bind (thn (dc_core (Qf := fun _ t => SP X pins D .next t) calm nodup I walked blk pg pt pk pv unfolded q1 fun L C t m G Iw q2 named fp => ?_) fun _ t q3 => wpAny_pure (wpAny_pure q3))
  show wpAny _ _ (assign (.Name nm pn) X.env (.ref L)) _ _ _
  refine wpAny_assign_Name (store_ok2 (v := V.ref L) Iw nodup at_ (.inl loc) rfl (fun t2 I2 ⟨a, same, wh⟩ => ?_) (.inr loc))
  obtain ⟨f0, f1, f2, f3, f4, f5⟩ := fp
  have apart : C ≠ a := wh.elim (fun z => by rw [z]; exact f1) fun z e => f4 nm a z e.symm
  exact ⟨m, named.sameBut same apart, fun h3 sb3 => ⟨_, G, I2.turned (t' := t2.toks) (fun b o hb e => (sb3.2 b hb).trans e) f0 f1 f3 f4 f5, q2⟩⟩
theorem sw_trueD {keyE valE : Expr} {gs : List Comprehension} {scope : Scope} {pos pn : Pos} {nm : PySem.Str} {l : Nat} {env : Env} (fn : env.scope.kind = .function) (loc : env.scope.names.lookup nm = some .local) (line : (pn.line == pos.line) = true)
    (other : (scope.names.any fun (n, k) => n == nm && (k == .local || k == .cell)) = false) : swapsWith (.DictComp keyE valE gs scope pos) (some (.Name nm pn)) l env = pure true := by
  have kind : env.kindOf nm = some .local := loc
  have block : env.blockKind = .function := by
    unfold Env.blockKind
    rw [fn]
    rfl
  unfold swapsWith
  simp only [block, kind, other, Expr.pos, line]
  rfl
end

theorem i_isIf {c : TT} {s1 s2 : TS} {D : Ends} {σ : L2.St} {H : Hp} (h : tIfS c s1 s2 D σ H) : tIfS c s1 s2 D σ H := h
theorem i_cutIf {c : TT} {s1 s2 : TS} {D : Ends} {σ : L2.St} {H : Hp} (P : L2.St → Hp → Prop) (k : ∀ σ' H', P σ' H' → D.nx σ' H') (h : ∀ D' : Ends, (∀ σ' H', P σ' H' → D'.nx σ' H') → tIfS c s1 s2 D' σ H) : tIfS c s1 s2 D σ H := h D k
--%%M
local macro_rules | `(tactic| walk_at "gi") => `(tactic| repeat ((fail_if_success (with_reducible apply i_isIf)); (walk_at "g1")))
--%%E

def DispK (p : Addr) (Q : VK) (k v : V) (H2 : Hp) : Prop := H2 p = some (.dK []) ∧ ∃ kvs : List (Key × V), [(k, v)] = kvs.map (fun kv => (kV kv.1, kv.2)) ∧ kvs.length ≤ 15 ∧ Q (.ref p) (upd H2 p (.dK (mergeK [] kvs)))
theorem i_dispK {H2 : Hp} {Q : VK} {n : Int} {p : Addr} {v : V} (h : H2 p = some (.dK [])) (q : Q (.ref p) (upd H2 p (.dK [(.inl n, v)]))) : DispK p Q (.int n) v H2 := ⟨h, [(.inl n, v)], rfl, by rw [List.length_singleton]; decide, q⟩

section
variable {K : PySem.W.Frag} {td : TE} {σ : L2.St} {H H1 : Hp} {Q : VK} {g : TG} {tt : TT} {tk tv : TE} {vs : List Nat} {a : Addr} {xs : List V}
/-- a dict comprehension over a list -/
def DcL (K : PySem.W.Frag) (x : V) (g : TG) (tt : TT) (tk tv : TE) (vs : List Nat) (σ : L2.St) (H1 : Hp) (Q : VK) : Prop := ∃ a, x = .ref a ∧ (∃ xs, SqL K H1 a xs) ∧ DcB (Itl K a) g tt tk tv vs σ H1 Q
theorem i_dcL (h : td σ H fun x H1 => DcL K x g tt tk tv vs σ H1 Q) : tDc (iList K td) g tt tk tv vs σ H Q := h
theorem i_dlistG (hs : SqL K H a xs) (Pv : Addr → Nat → Hp → Prop)
    (h0 : ∀ R, Fr H R → Pv R 0 (upd H R (.dK [])))
    (hl : ∀ R i H', Fr H R → i ≤ xs.length → Pv R i H' → SqL K H' a xs)
    (st : ∀ R i x H', Fr H R → xs[i]? = some x → Pv R i H' → g x (wipe σ vs) H' fun σ2 H2 =>
      wipe σ2 vs = wipe σ vs ∧ tt σ2 H2 fun b H3 => if b = true then tk σ2 H3 fun y H4 => tv σ2 H4 fun z H5 => ∃ kvs k, y = kV k ∧ H5 R = some (.dK kvs) ∧ kvs.length < sizeLine ∧ Pv R (i + 1) (upd H5 R (.dK (putK kvs k z))) else Pv R (i + 1) H3)
    (hdn : ∀ R H', Fr H R → Pv R xs.length H' → Q (.ref R) H') : DcL K (.ref a) g tt tk tv vs σ H Q := by
  refine ⟨a, rfl, ⟨_, hs⟩, fun R hR => ⟨fun i m H' => m = xs.length - i ∧ i ≤ xs.length ∧ Pv R i H', ⟨_, rfl, Nat.zero_le _, h0 R ⟨hR⟩⟩, ?_⟩⟩
  rintro i m H' ⟨rfl, hi, z⟩
  have q := hl R i H' ⟨hR⟩ hi z
  by_cases c : i < xs.length
  · refine .inr ⟨⟨xs, xs[i], q, List.getElem?_eq_getElem c⟩, Pv R (i + 1), fun H2 w => ⟨_, by omega, rfl, c, w⟩, ?_⟩
    intro x H2 y
    obtain ⟨e, y⟩ := y
    subst e
    exact st R i x _ ⟨hR⟩ (y xs q) z
  · have e : i = xs.length := by omega
    subst e
    exact .inl ⟨⟨xs, q, Nat.le_refl _⟩, hdn R _ ⟨hR⟩ z⟩
end

/-! ### memories, their lists told -/
/-- the memory m, its private list l told -/
def MemL (K : PySem.W.Frag) (C : Addr) (H : Hp) (m l : Addr) (cs : List Int) : Prop := ∃ dx, H m = some (.ins C dx (mfs cs.length l)) ∧ LD K H l ((rle cs).map d2)
/-- an entry of the dict of memories: world, memory, the memory's list -/
def kM (e : Int × Addr × Addr) : Key × V := (.inl e.1, .ref e.2.1)
section
variable {K : PySem.W.Frag} {C : Addr} {H H' : Hp} {m l b : Addr} {cs : List Int} {ws : List Addr}
theorem MemL.mem (h : MemL K C H m l cs) : MemAt K C H m cs := by
  obtain ⟨dx, h1, h2⟩ := h
  exact ⟨dx, l, h1, h2⟩
theorem MemAt.lst (h : MemAt K C H m cs) : ∃ l, MemL K C H m l cs := by
  obtain ⟨dx, l, h1, h2⟩ := h
  exact ⟨l, dx, h1, h2⟩
theorem MemL.ne (h : MemL K C H m l cs) (o : Off H m b) : l ≠ b := by
  obtain ⟨dx, h1, _⟩ := h
  exact o _ _ _ _ h1
theorem MemL.known (h : MemL K C H m l cs) : (∃ u, H m = some u) ∧ ∃ u, H l = some u := by
  obtain ⟨dx, h1, vs, h2, _⟩ := h
  exact ⟨⟨_, h1⟩, _, h2⟩
theorem MemL.kp (h : MemL K C H m l cs) (k : Kp ws H H') (n1 : m ∉ ws) (n2 : l ∉ ws) : MemL K C H' m l cs := by
  obtain ⟨dx, h1, h2⟩ := h
  exact ⟨dx, k.at_ _ _ h1 n1, h2.kp k (imms_d2 _) n2⟩
end

theorem i_dgS {H : Hp} {Q : VK} {a : Addr} {kvs : List (Key × V)} {z : Str} {v : V} (hd : H a = some (.dK kvs)) (hv : valV kvs (.inr z) = some v) (q : Q v H) : DG (.ref a) (.str z) H Q :=
  ⟨a, v, rfl, by
    have e := DGet.k (k := .inr z) hd
    rw [hv] at e
    exact e, q⟩
theorem i_setS {H : Hp} {a : Addr} {kvs : List (Key × V)} {z : Str} {v : V} {P : Hp → Prop} (hd : H a = some (.dK kvs)) (hl : kvs.length ≤ 1000000) (q : P (upd H a (.dK (putK kvs (.inr z) v)))) : rSetD (.ref a) (.str z) v H P :=
  ⟨a, _, rfl, DPut.k (k := .inr z) hd (small_sz hl), q⟩

/-! ### the law's own rows of runs -/
def sp_lpart (K : PySem.W.Frag) : Sp := fun vs H Q _ => ∃ (a : Addr) (b e : Int) (ps : List (Int × Int)),
  vs = [.ref a, .int b, .int e] ∧ Dp K H (.ref a) (.list (ps.map d2)) ∧ ps.length ≤ 100000 ∧
  ∀ l H', Fr H l → Kp [] H H' → LD K H' l ((cut b e ps).map d2) → Q (.ref l) H'
theorem sc_law_part : FnScope ["_law_row_here", "_law_begin", "_law_stop", "_law_found", "_law_here", "_law_many", "_law_number_here", "_law_low", "_law_high"] ["_law_row_here", "_law_begin", "_law_stop"] (defScope s_law_part) :=
  ⟨rfl, rfl, rfl, by decide +kernel, rfl, by decide +kernel, by decide +kernel⟩
theorem ok_law_part {P : Program} {w : World} {K : PySem.W.Frag} {mg : Str → Option Value} {base : Heap} (T : Txt K mg) :
    FnG P w K mg base 1 T.a_law_part T.d_law_part ["_law_row_here", "_law_begin", "_law_stop"] (sp_lpart K) := by
  refine okD T.F_law_part sc_law_part (fun vs H Q E h => ?_) (fun cdv A outer s H vs Q E hr h => ?_)
  · first
      | (obtain ⟨_, rfl, _⟩ := h; rfl)
      | (obtain ⟨_, _, rfl, _⟩ := h; rfl)
      | (obtain ⟨_, _, _, rfl, _⟩ := h; rfl)
      | (obtain ⟨_, _, _, _, rfl, _⟩ := h; rfl)
      | (obtain ⟨_, _, _, _, _, rfl, _⟩ := h; rfl)
      | (obtain ⟨_, _, _, _, _, _, rfl, _⟩ := h; rfl)
      | (obtain ⟨_, _, _, _, _, _, _, rfl, _⟩ := h; rfl)
      | (obtain ⟨_, _, _, _, _, _, _, _, rfl, _⟩ := h; rfl)
      | (obtain ⟨_, _, _, _, _, _, _, _, _, rfl, _⟩ := h; rfl)
      | (obtain ⟨_, _, _, _, _, _, _, _, _, _, rfl, _⟩ := h; rfl)
      | (obtain ⟨_, _, _, _, _, _, _, _, _, _, _, rfl, _⟩ := h; rfl)
      | (obtain ⟨_, _, _, _, _, _, _, _, _, _, _, _, rfl, _⟩ := h; rfl)
      | (obtain ⟨_, _, _, _, _, _, _, _, _, _, _, _, _, rfl, _⟩ := h; rfl)
      | (obtain ⟨_, _, _, _, _, _, _, _, _, _, _, _, _, _, rfl, _⟩ := h; rfl)
      | (obtain ⟨_, _, _, _, _, _, _, _, _, _, _, _, _, _, _, rfl, _⟩ := h; rfl)
      | (obtain ⟨_, _, _, _, _, _, _, _, _, _, _, _, _, _, _, _, rfl, _⟩ := h; rfl)
      | (obtain ⟨_, _, _, _, _, _, _, _, _, _, _, _, _, _, _, _, _, rfl, _⟩ := h; rfl)
      | (obtain ⟨_, _, _, _, _, _, _, _, _, _, _, _, _, _, _, _, _, _, rfl, _⟩ := h; rfl)
      | (obtain ⟨_, _, _, _, _, _, _, _, _, _, _, _, _, _, _, _, _, _, _, rfl, _⟩ := h; rfl)
  · obtain ⟨a, b, e, ps, rfl, ha, hps, k⟩ := h
    cases ha
    rename_i xs hsq hall
    have hlen := dpa_len hall
    rw [List.length_map] at hlen
    have cl_Memory := T.cl_Memory
    have na_Memory_pairs := T.na_Memory_pairs
    have na_Memory_wide := T.na_Memory_wide
    refine ⟨_, (pss_cons (ps_par (i := 3) (j := 4) (by rfl) sc_law_part.nd rfl rfl (by decide) rfl rfl (pa_cons (pe_lst pa_nil) (pa_cons pe_int pa_nil)) (by rfl))
      (pss_cons (ps_for (passes_of rfl) rfl (k_plist (K := K) rfl (pv 0)) (k_gtup (K := K) 2 rfl rfl (pgs_cons (pg_name (i := 5) sc_law_part.nd rfl (Or.inl rfl)) (pgs_cons (pg_name (i := 6) sc_law_part.nd rfl (Or.inl rfl)) pgs_nil)))
      (pss_cons (ps_par (i := 7) (j := 8) (by rfl) sc_law_part.nd rfl rfl (by decide) rfl rfl (pa_cons (pe_callB (c_max2 rfl) (by rfl) T.n_max (by decide +kernel) (pa_cons (pv 4) (pa_cons (pv 1) pa_nil))) (pa_cons (pe_callB (c_min2 rfl) (by rfl) T.n_min (by decide +kernel) (pa_cons (pe_op (k_add (K := K) rfl) (pv 4) (pv 5)) (pa_cons (pv 2) pa_nil))) pa_nil)) (by rfl))
      (pss_cons (ps_if (pt_cmpR op_lt (pv 7) (pv 8) (nomark _)) (pss_one (ps_expr (pe_bm PySem.F.plainAttrs_list PySem.F.slot_list_append PySem.F.type_list_append mt_append (pv 3) (pa_cons (pe_tup (pa_cons (pe_op op_sub (pv 8) (pv 7)) (pa_cons (pv 6) pa_nil))) pa_nil)))) pss_nil)
      (pss_one (ps_set (i := 4) sc_law_part.nd rfl (Or.inl rfl) (pe_op (k_add (K := K) rfl) (pv 4) (pv 5)))))))
      (pss_one (ps_ret (pv 3))))), ?_⟩
    dsimp only [cxOf, st_1, st_2, st_3, st_4, st_5, st_6, List.length_cons, List.length_nil, List.replicate_succ, List.replicate_zero, Nat.reduceAdd, Nat.reduceSub]
    walk_at "gs"
    refine i_new fun l hl => ?_
    walk_at "gs"
    refine i_each ((Kp.new hl).seqL (ws := []) List.not_mem_nil hsq) (fun i σ H' => ∃ u v w x, σ = [some (.ref a), some (.int b), some (.int e), some (.ref l), some (.int (wide (ps.take i))), u, v, w, x] ∧ Kp [] H H' ∧
      LD K H' l ((cut b e (ps.take i)).map d2)) ?_ ?_ ?_ ?_
    · exact ⟨none, none, none, none, rfl, Kp.new hl, ⟨[], upd_same, .nil⟩⟩
    · rintro i σ H' _ ⟨u, v, w, x, rfl, kp, ld⟩
      exact kp.seqL List.not_mem_nil hsq
    · rintro i x σ H' hx ⟨u, v, w, y, rfl, kp, ld⟩
      obtain ⟨d, hd, hdp⟩ := dpa_getV hall hx
      obtain ⟨p, hp, rfl⟩ := map_get hd
      obtain ⟨pa, rfl, hpt⟩ := dp_pair hdp
      replace hpt := kp.seqT hpt
      obtain ⟨vs, hvs, hall2⟩ := id ld
      have hvl := dpa_len hall2
      rw [List.length_map] at hvl
      have hcl := cut_len b e (ps.take i)
      rw [List.length_take] at hcl
      have hil : i < ps.length := (List.getElem?_eq_some_iff.mp hp).1
      walk_at "gs"
      rw [Int.max_comm (wide (ps.take i)) b, Int.min_comm (wide (ps.take i) + p.1) e]
      refine i_dec (fun c => ?_) (fun c => ?_)
      · walk_at "gs"
        refine i_new fun t ht => ?_
        walk_at "gs"
        rw [wide_take hp, cut_take hp, if_pos c, List.map_append]
        refine ⟨_, _, _, _, rfl, by walk_at "g_kp", ?_⟩
        exact ld_push (ws := [l]) (H0 := H') (by walk_at "g_kp") hall2 (imms_d2 _) upd_same (dp_mk2 (m := min e (wide (ps.take i) + p.1) - max b (wide (ps.take i))) (n := p.2) (by walk_at "g_st"))
      · walk_at "gs"
        rw [wide_take hp, cut_take hp, if_neg c, List.append_nil]
        exact ⟨_, _, _, _, rfl, kp, ld⟩
    · rintro σ H' ⟨u, v, w, x, rfl, kp, ld⟩
      walk_at "gs"
      rw [List.take_of_length_le (by omega)] at ld
      exact k l H' hl kp ld
def sp_among (K : PySem.W.Frag) : Sp := fun vs H Q _ => ∃ (p l : Addr) (xs : List V), vs = [.ref p, .ref l] ∧ PotAt H p ∧ SqL K H l xs ∧ l ≠ p ∧ 0 < xs.length ∧ xs.length ≤ 1000 ∧
  ∀ v H', v ∈ xs → PotAt H' p → Kp [p] H H' → Q v H'
theorem sc_law_among : FnScope ["_law_pot_here", "_law_some"] ["_law_pot_here", "_law_some"] (defScope s_law_among) :=
  ⟨rfl, rfl, rfl, by decide +kernel, rfl, by decide +kernel, by decide +kernel⟩
theorem ok_law_among {P : Program} {w : World} {K : PySem.W.Frag} {mg : Str → Option Value} {base : Heap} (T : Txt K mg) :
    FnG P w K mg base 2 T.a_law_among T.d_law_among ["_law_pot_here", "_law_some"] (sp_among K) := by
  refine okD T.F_law_among sc_law_among (fun vs H Q E h => ?_) (fun cdv A outer s H vs Q E hr h => ?_)
  · first
      | (obtain ⟨_, rfl, _⟩ := h; rfl)
      | (obtain ⟨_, _, rfl, _⟩ := h; rfl)
      | (obtain ⟨_, _, _, rfl, _⟩ := h; rfl)
      | (obtain ⟨_, _, _, _, rfl, _⟩ := h; rfl)
      | (obtain ⟨_, _, _, _, _, rfl, _⟩ := h; rfl)
      | (obtain ⟨_, _, _, _, _, _, rfl, _⟩ := h; rfl)
      | (obtain ⟨_, _, _, _, _, _, _, rfl, _⟩ := h; rfl)
      | (obtain ⟨_, _, _, _, _, _, _, _, rfl, _⟩ := h; rfl)
      | (obtain ⟨_, _, _, _, _, _, _, _, _, rfl, _⟩ := h; rfl)
      | (obtain ⟨_, _, _, _, _, _, _, _, _, _, rfl, _⟩ := h; rfl)
      | (obtain ⟨_, _, _, _, _, _, _, _, _, _, _, rfl, _⟩ := h; rfl)
      | (obtain ⟨_, _, _, _, _, _, _, _, _, _, _, _, rfl, _⟩ := h; rfl)
      | (obtain ⟨_, _, _, _, _, _, _, _, _, _, _, _, _, rfl, _⟩ := h; rfl)
      | (obtain ⟨_, _, _, _, _, _, _, _, _, _, _, _, _, _, rfl, _⟩ := h; rfl)
      | (obtain ⟨_, _, _, _, _, _, _, _, _, _, _, _, _, _, _, rfl, _⟩ := h; rfl)
      | (obtain ⟨_, _, _, _, _, _, _, _, _, _, _, _, _, _, _, _, rfl, _⟩ := h; rfl)
      | (obtain ⟨_, _, _, _, _, _, _, _, _, _, _, _, _, _, _, _, _, rfl, _⟩ := h; rfl)
      | (obtain ⟨_, _, _, _, _, _, _, _, _, _, _, _, _, _, _, _, _, _, rfl, _⟩ := h; rfl)
      | (obtain ⟨_, _, _, _, _, _, _, _, _, _, _, _, _, _, _, _, _, _, _, rfl, _⟩ := h; rfl)
  · obtain ⟨p, l, xs, rfl, hp, hl, np, l0, l1, k⟩ := h
    refine ⟨_, (pss_one (ps_ret (pe_ix (k_ix (K := K) rfl) (pv 1) (d1 (ok_law_take T) (hr.mono (by decide)) (by rfl) T.m_law_take T.F_law_take.kp T.b_law_take passL (pa_cons (pv 0) (pa_cons (pe_callB (k_len (K := K) rfl) (by rfl) T.n_len (by decide +kernel) (pa_cons (pv 1) pa_nil)) pa_nil))) (fun _ _ => rfl)))), ?_⟩
    dsimp only [cxOf, st_1, st_2, st_3, st_4, st_5, st_6, List.length_cons, List.length_nil, List.replicate_succ, List.replicate_zero, Nat.reduceAdd, Nat.reduceSub]
    walk_at "gs"
    refine use_take hp (by omega) (by omega) (fun r H1 r0 r1 hp1 k1 => ?_)
    obtain ⟨r, rfl⟩ := Int.eq_ofNat_of_zero_le r0
    have hr : r < xs.length := by omega
    have hat : atI xs (r : Nat) = some xs[r] := atI_nat (List.getElem?_eq_getElem hr)
    have hl1 : SqL K H1 l xs := k1.seqL (not_one np) hl
    walk_at "gs"
    exact k _ H1 (List.getElem_mem hr) hp1 k1
def sp_wide (K : PySem.W.Frag) : Sp := fun vs H Q _ => ∃ p : Addr, vs = [.ref p] ∧ PotAt H p ∧ ∀ n H', 1 ≤ n → n ≤ 1000000000000000000 → PotAt H' p → Kp [p] H H' → Q (.int n) H'
theorem sc_law_wide : FnScope ["_law_pot_here", "_law_some"] ["_law_pot_here"] (defScope s_law_wide) :=
  ⟨rfl, rfl, rfl, by decide +kernel, rfl, by decide +kernel, by decide +kernel⟩
theorem ok_law_wide {P : Program} {w : World} {K : PySem.W.Frag} {mg : Str → Option Value} {base : Heap} (T : Txt K mg) :
    FnG P w K mg base 2 T.a_law_wide T.d_law_wide ["_law_pot_here"] (sp_wide K) := by
  refine okD T.F_law_wide sc_law_wide (fun vs H Q E h => ?_) (fun cdv A outer s H vs Q E hr h => ?_)
  · first
      | (obtain ⟨_, rfl, _⟩ := h; rfl)
      | (obtain ⟨_, _, rfl, _⟩ := h; rfl)
      | (obtain ⟨_, _, _, rfl, _⟩ := h; rfl)
      | (obtain ⟨_, _, _, _, rfl, _⟩ := h; rfl)
      | (obtain ⟨_, _, _, _, _, rfl, _⟩ := h; rfl)
      | (obtain ⟨_, _, _, _, _, _, rfl, _⟩ := h; rfl)
      | (obtain ⟨_, _, _, _, _, _, _, rfl, _⟩ := h; rfl)
      | (obtain ⟨_, _, _, _, _, _, _, _, rfl, _⟩ := h; rfl)
      | (obtain ⟨_, _, _, _, _, _, _, _, _, rfl, _⟩ := h; rfl)
      | (obtain ⟨_, _, _, _, _, _, _, _, _, _, rfl, _⟩ := h; rfl)
      | (obtain ⟨_, _, _, _, _, _, _, _, _, _, _, rfl, _⟩ := h; rfl)
      | (obtain ⟨_, _, _, _, _, _, _, _, _, _, _, _, rfl, _⟩ := h; rfl)
      | (obtain ⟨_, _, _, _, _, _, _, _, _, _, _, _, _, rfl, _⟩ := h; rfl)
      | (obtain ⟨_, _, _, _, _, _, _, _, _, _, _, _, _, _, rfl, _⟩ := h; rfl)
      | (obtain ⟨_, _, _, _, _, _, _, _, _, _, _, _, _, _, _, rfl, _⟩ := h; rfl)
      | (obtain ⟨_, _, _, _, _, _, _, _, _, _, _, _, _, _, _, _, rfl, _⟩ := h; rfl)
      | (obtain ⟨_, _, _, _, _, _, _, _, _, _, _, _, _, _, _, _, _, rfl, _⟩ := h; rfl)
      | (obtain ⟨_, _, _, _, _, _, _, _, _, _, _, _, _, _, _, _, _, _, rfl, _⟩ := h; rfl)
      | (obtain ⟨_, _, _, _, _, _, _, _, _, _, _, _, _, _, _, _, _, _, _, rfl, _⟩ := h; rfl)
  · obtain ⟨p, rfl, hp, k⟩ := h
    refine ⟨_, (pss_cons (ps_set (i := 1) sc_law_wide.nd rfl (Or.inl rfl) (pe_lst (pa_cons (pe_op (k_add (K := K) rfl) pe_int (d1 (ok_law_take T) (hr.mono (by decide)) (by rfl) T.m_law_take T.F_law_take.kp T.b_law_take passL (pa_cons (pv 0) (pa_cons pe_int pa_nil)))) (pa_cons (pe_op (k_add (K := K) rfl) pe_int (d1 (ok_law_take T) (hr.mono (by decide)) (by rfl) T.m_law_take T.F_law_take.kp T.b_law_take passL (pa_cons (pv 0) (pa_cons pe_int pa_nil)))) (pa_cons (pe_op op_sub (pe_op o_pow pe_int pe_int) (d1 (ok_law_take T) (hr.mono (by decide)) (by rfl) T.m_law_take T.F_law_take.kp T.b_law_take passL (pa_cons (pv 0) (pa_cons pe_int pa_nil)))) (pa_cons (pe_op (k_add (K := K) rfl) pe_int (d1 (ok_law_take T) (hr.mono (by decide)) (by rfl) T.m_law_take T.F_law_take.kp T.b_law_take passL (pa_cons (pv 0) (pa_cons (pe_op o_pow pe_int pe_int) pa_nil)))) pa_nil))))))
      (pss_one (ps_ret (pe_ix (k_ix (K := K) rfl) (pv 1) (d1 (ok_law_take T) (hr.mono (by decide)) (by rfl) T.m_law_take T.F_law_take.kp T.b_law_take passL (pa_cons (pv 0) (pa_cons pe_int pa_nil))) (fun _ _ => rfl))))), ?_⟩
    dsimp only [cxOf, st_1, st_2, st_3, st_4, st_5, st_6, List.length_cons, List.length_nil, List.replicate_succ, List.replicate_zero, Nat.reduceAdd, Nat.reduceSub]
    walk_at "gs"
    refine use_take hp (by decide) (by decide) (fun r1 H1 a1 b1 hp1 k1 => ?_)
    walk_at "gs"
    refine use_take hp1 (by decide) (by decide) (fun r2 H2 a2 b2 hp2 k2 => ?_)
    walk_at "gs"
    refine use_take hp2 (by decide) (by decide) (fun r3 H3 a3 b3 hp3 k3 => ?_)
    walk_at "gs"
    refine use_take hp3 (by decide) (by decide) (fun r4 H4 a4 b4 hp4 k4 => ?_)
    walk_at "gs"
    refine i_new fun L fL => ?_
    have kL := Kp.new (ws := []) (o := HO.lst [V.int (1 + r1), V.int (2 + r2), V.int (1000000000000000000 - r3), V.int (1 + r4)]) fL
    have hL := fresh_at (o := HO.lst [V.int (1 + r1), V.int (2 + r2), V.int (1000000000000000000 - r3), V.int (1 + r4)]) fL
    have hp5 := hp4.kp kL not_nil
    obtain ⟨H5, e5⟩ : ∃ H5, H5 = upd H4 L (.lst [V.int (1 + r1), V.int (2 + r2), V.int (1000000000000000000 - r3), V.int (1 + r4)]) := ⟨_, rfl⟩
    rw [← e5] at kL hL hp5 ⊢
    have nLp : L ≠ p := Ne.symm (hp4.ne fL)
    walk_at "gs"
    refine use_take hp5 (by decide) (by decide) (fun r5 H6 a5 b5 hp6 k6 => ?_)
    have hL6 := k6.at_ _ _ hL (not_one nLp)
    have k06 : Kp [p] H H6 := Kp.trans k1 (Kp.trans k2 (Kp.trans k3 (Kp.trans k4 (Kp.trans kL.wide k6))))
    have c : r5 = 0 ∨ r5 = 1 ∨ r5 = 2 ∨ r5 = 3 := by omega
    rcases c with rfl | rfl | rfl | rfl
    · refine i_ixL (SqL.of hL6) (v := .int (1 + r1)) rfl ?_
      exact k _ H6 (by omega) (by omega) hp6 k06
    · refine i_ixL (SqL.of hL6) (v := .int (2 + r2)) rfl ?_
      exact k _ H6 (by omega) (by omega) hp6 k06
    · refine i_ixL (SqL.of hL6) (v := .int (1000000000000000000 - r3)) rfl ?_
      exact k _ H6 (by omega) (by omega) hp6 k06
    · refine i_ixL (SqL.of hL6) (v := .int (1 + r4)) rfl ?_
      exact k _ H6 (by omega) (by omega) hp6 k06

def sp_ljoined (K : PySem.W.Frag) : Sp := fun vs H Q _ => ∃ (a : Addr) (ps : List (Int × Int)),
  vs = [.ref a] ∧ Dp K H (.ref a) (.list (ps.map d2)) ∧ ps.length ≤ 100000 ∧ (∀ q ∈ ps, 0 < q.1) ∧
  ∀ l H', Fr H l → Kp [] H H' → LD K H' l ((jnd ps).map d2) → Q (.ref l) H'
theorem sc_law_joined : FnScope ["_law_row_here", "_law_found", "_law_many", "_law_number_here"] ["_law_row_here"] (defScope s_law_joined) :=
  ⟨rfl, rfl, rfl, by decide +kernel, rfl, by decide +kernel, by decide +kernel⟩
theorem ok_law_joined {P : Program} {w : World} {K : PySem.W.Frag} {mg : Str → Option Value} {base : Heap} (T : Txt K mg) :
    FnG P w K mg base 1 T.a_law_joined T.d_law_joined ["_law_row_here"] (sp_ljoined K) := by
  refine okD T.F_law_joined sc_law_joined (fun vs H Q E h => ?_) (fun cdv A outer s H vs Q E hr h => ?_)
  · first
      | (obtain ⟨_, rfl, _⟩ := h; rfl)
      | (obtain ⟨_, _, rfl, _⟩ := h; rfl)
      | (obtain ⟨_, _, _, rfl, _⟩ := h; rfl)
      | (obtain ⟨_, _, _, _, rfl, _⟩ := h; rfl)
      | (obtain ⟨_, _, _, _, _, rfl, _⟩ := h; rfl)
      | (obtain ⟨_, _, _, _, _, _, rfl, _⟩ := h; rfl)
      | (obtain ⟨_, _, _, _, _, _, _, rfl, _⟩ := h; rfl)
      | (obtain ⟨_, _, _, _, _, _, _, _, rfl, _⟩ := h; rfl)
      | (obtain ⟨_, _, _, _, _, _, _, _, _, rfl, _⟩ := h; rfl)
      | (obtain ⟨_, _, _, _, _, _, _, _, _, _, rfl, _⟩ := h; rfl)
      | (obtain ⟨_, _, _, _, _, _, _, _, _, _, _, rfl, _⟩ := h; rfl)
      | (obtain ⟨_, _, _, _, _, _, _, _, _, _, _, _, rfl, _⟩ := h; rfl)
      | (obtain ⟨_, _, _, _, _, _, _, _, _, _, _, _, _, rfl, _⟩ := h; rfl)
      | (obtain ⟨_, _, _, _, _, _, _, _, _, _, _, _, _, _, rfl, _⟩ := h; rfl)
      | (obtain ⟨_, _, _, _, _, _, _, _, _, _, _, _, _, _, _, rfl, _⟩ := h; rfl)
      | (obtain ⟨_, _, _, _, _, _, _, _, _, _, _, _, _, _, _, _, rfl, _⟩ := h; rfl)
      | (obtain ⟨_, _, _, _, _, _, _, _, _, _, _, _, _, _, _, _, _, rfl, _⟩ := h; rfl)
      | (obtain ⟨_, _, _, _, _, _, _, _, _, _, _, _, _, _, _, _, _, _, rfl, _⟩ := h; rfl)
      | (obtain ⟨_, _, _, _, _, _, _, _, _, _, _, _, _, _, _, _, _, _, _, rfl, _⟩ := h; rfl)
  · obtain ⟨a, ps, rfl, ha, hps, pos, k⟩ := h
    cases ha
    rename_i xs hsq hall
    have hlen := dpa_len hall
    rw [List.length_map] at hlen
    have cl_Memory := T.cl_Memory
    have na_Memory_pairs := T.na_Memory_pairs
    have na_Memory_wide := T.na_Memory_wide
    refine ⟨_, (pss_cons (ps_set (i := 1) sc_law_joined.nd rfl (Or.inl rfl) (pe_lst pa_nil))
      (pss_cons (ps_for (passes_of rfl) rfl (k_plist (K := K) rfl (pv 0)) (k_gtup (K := K) 2 rfl rfl (pgs_cons (pg_name (i := 2) sc_law_joined.nd rfl (Or.inl rfl)) (pgs_cons (pg_name (i := 3) sc_law_joined.nd rfl (Or.inl rfl)) pgs_nil)))
      (pss_cons (ps_if (PW.pt (pw_and (pt_cmpR (k_ne (K := K) rfl hr.r.units) (pv 1) (pe_lst pa_nil) (nomark _)) (pw_and1 (pt_cmpR (k_eq (K := K) rfl hr.r.units) (pe_ix (k_ix (K := K) rfl) (pe_ix (k_ix (K := K) rfl) (pv 1) (pe_un un_neg pe_int) (fun _ _ => rfl)) pe_int (fun _ _ => rfl)) (pv 3) (nomark _))))) (pss_one (ps_set (i := 2) sc_law_joined.nd rfl (Or.inl rfl) (pe_op (k_add (K := K) rfl) (pv 2) (pe_ix (k_ix (K := K) rfl) (pe_bm0 PySem.F.plainAttrs_list PySem.F.slot_list_pop PySem.F.type_list_pop mt_pop (pv 1)) pe_int (fun _ _ => rfl))))) pss_nil)
      (pss_one (ps_expr (pe_bm PySem.F.plainAttrs_list PySem.F.slot_list_append PySem.F.type_list_append mt_append (pv 1) (pa_cons (pe_tup (pa_cons (pv 2) (pa_cons (pv 3) pa_nil))) pa_nil))))))
      (pss_one (ps_ret (pv 1))))), ?_⟩
    dsimp only [cxOf, st_1, st_2, st_3, st_4, st_5, st_6, List.length_cons, List.length_nil, List.replicate_succ, List.replicate_zero, Nat.reduceAdd, Nat.reduceSub]
    walk_at "gs"
    refine i_new fun l hl => ?_
    walk_at "gs"
    refine i_each ((Kp.new hl).seqL (ws := []) List.not_mem_nil hsq) (fun i σ H' => ∃ u v, σ = [some (.ref a), some (.ref l), u, v] ∧ Kp [] H H' ∧
      LD K H' l ((jnd (ps.take i)).map d2)) ?_ ?_ ?_ ?_
    · exact ⟨none, none, rfl, Kp.new hl, ⟨[], upd_same, .nil⟩⟩
    · rintro i σ H' _ ⟨u, v, rfl, kp, ld⟩
      exact kp.seqL List.not_mem_nil hsq
    · rintro i x σ H' hx ⟨u, v, rfl, kp, ld⟩
      obtain ⟨d, hd, hdp⟩ := dpa_getV hall hx
      obtain ⟨p, hp, rfl⟩ := map_get hd
      obtain ⟨pa, rfl, hpt⟩ := dp_pair hdp
      replace hpt := kp.seqT hpt
      have h0 := pos p (List.mem_of_getElem? hp)
      obtain ⟨vs, hvs, hall2⟩ := id ld
      have hvl := dpa_len hall2
      rw [List.length_map] at hvl
      have hjl := jnd_len ps i
      have hil : i < ps.length := (List.getElem?_eq_some_iff.mp hp).1
      walk_at "gs"
      refine i_new fun q hq => ?_
      walk_at "gs"
      refine ne_nil ld (imms_d2 _) (shaped_pairs _) hq ?_
      walk_at "gs"
      refine i_boN (fun e => ?_) (fun e => ?_)
      · obtain ⟨f0, q0, hF⟩ := list_last (l := jnd (ps.take i)) (by
          intro z
          rw [z] at e
          cases e)
        rw [hF, List.map_append] at hall2
        obtain ⟨us, x, rfl, hu, hx2⟩ := dpa_last hall2
        obtain ⟨qa, rfl, hqa⟩ := dp_pair hx2
        rw [List.length_append, List.length_singleton] at hvl
        walk_at "gs"
        refine i_dec (fun h1 => ?_) (fun h1 => ?_)
        · walk_at "gs"
          have nlq : l ≠ q := fr_ne hvs hq
          have hl1 : (upd H' q (.lst [])) l = some (.lst (us ++ [V.ref qa])) := by rw [upd_ne nlq]; exact hvs
          refine i_popV hl1 ?_
          walk_at "gs"
          refine i_new fun t ht => ?_
          walk_at "gs"
          refine ⟨_, _, rfl, ?_, _, upd_same, ?_⟩
          · walk_at "g_kp"
          · have kl : Kp [l] H' (upd (upd (upd (upd H' q (.lst [])) l (.lst us)) t (.tup [.int (p.1 + q0.1), .int p.2])) l (.lst (us ++ [V.ref t]))) := by walk_at "g_kp"
            rw [jnd_take hp, hF, jst_same h0 h1, List.map_append, Int.add_comm q0.1 p.1]
            exact dpa_app (dpa_imm kl _ _ (imms_d2 _) hu) (dpa_one (dp_mk2 (by walk_at "g_st")))
        · walk_at "gs"
          refine i_new fun t ht => ?_
          walk_at "gs"
          refine ⟨_, _, rfl, ?_, _, upd_same, ?_⟩
          · walk_at "g_kp"
          · have kl : Kp [l] H' (upd (upd (upd H' q (.lst [])) t (.tup [.int p.1, .int p.2])) l (.lst (us ++ [V.ref qa] ++ [V.ref t]))) := by walk_at "g_kp"
            rw [jnd_take hp, hF, jst_other h0 h1, List.map_append, List.map_append]
            exact dpa_app (dpa_app (dpa_imm kl _ _ (imms_d2 _) hu) (dpa_one (dp_imm kl _ _ rfl hx2))) (dpa_one (dp_mk2 (by walk_at "g_st")))
      · walk_at "gs"
        have hF : jnd (ps.take i) = [] := by
          cases z : jnd (ps.take i) with
          | nil => rfl
          | cons x y =>
            rw [z] at e
            cases e
        refine i_new fun t ht => ?_
        walk_at "gs"
        rw [hF] at hall2
        cases hall2
        refine ⟨_, _, rfl, ?_, _, upd_same, ?_⟩
        · walk_at "g_kp"
        · rw [jnd_take hp, hF, jst_nil h0]
          exact dpa_one (dp_mk2 (by walk_at "g_st"))
    · rintro σ H' ⟨u, v, rfl, kp, ld⟩
      walk_at "gs"
      rw [List.take_of_length_le (by omega)] at ld
      exact k l H' hl kp ld

def okM (v : Int) : Prop := -10000000000000000000000000000000000000000 ≤ v ∧ v ≤ 10000000000000000000000000000000000000000
def sp_lnumber (K : PySem.W.Frag) : Sp := fun vs H Q _ => ∃ p : Addr, vs = [.ref p] ∧ PotAt H p ∧ ∀ v H', okM v → PotAt H' p → Kp [p] H H' → Q (.int v) H'
theorem sc_law_number : FnScope ["_law_pot_here", "_law_small", "_law_far"] ["_law_pot_here"] (defScope s_law_number) :=
  ⟨rfl, rfl, rfl, by decide +kernel, rfl, by decide +kernel, by decide +kernel⟩
theorem ok_law_number {P : Program} {w : World} {K : PySem.W.Frag} {mg : Str → Option Value} {base : Heap} (T : Txt K mg) :
    FnG P w K mg base 2 T.a_law_number T.d_law_number ["_law_pot_here"] (sp_lnumber K) := by
  refine okD T.F_law_number sc_law_number (fun vs H Q E h => ?_) (fun cdv A outer s H vs Q E hr h => ?_)
  · first
      | (obtain ⟨_, rfl, _⟩ := h; rfl)
      | (obtain ⟨_, _, rfl, _⟩ := h; rfl)
      | (obtain ⟨_, _, _, rfl, _⟩ := h; rfl)
      | (obtain ⟨_, _, _, _, rfl, _⟩ := h; rfl)
      | (obtain ⟨_, _, _, _, _, rfl, _⟩ := h; rfl)
      | (obtain ⟨_, _, _, _, _, _, rfl, _⟩ := h; rfl)
      | (obtain ⟨_, _, _, _, _, _, _, rfl, _⟩ := h; rfl)
      | (obtain ⟨_, _, _, _, _, _, _, _, rfl, _⟩ := h; rfl)
      | (obtain ⟨_, _, _, _, _, _, _, _, _, rfl, _⟩ := h; rfl)
      | (obtain ⟨_, _, _, _, _, _, _, _, _, _, rfl, _⟩ := h; rfl)
      | (obtain ⟨_, _, _, _, _, _, _, _, _, _, _, rfl, _⟩ := h; rfl)
      | (obtain ⟨_, _, _, _, _, _, _, _, _, _, _, _, rfl, _⟩ := h; rfl)
      | (obtain ⟨_, _, _, _, _, _, _, _, _, _, _, _, _, rfl, _⟩ := h; rfl)
      | (obtain ⟨_, _, _, _, _, _, _, _, _, _, _, _, _, _, rfl, _⟩ := h; rfl)
      | (obtain ⟨_, _, _, _, _, _, _, _, _, _, _, _, _, _, _, rfl, _⟩ := h; rfl)
      | (obtain ⟨_, _, _, _, _, _, _, _, _, _, _, _, _, _, _, _, rfl, _⟩ := h; rfl)
      | (obtain ⟨_, _, _, _, _, _, _, _, _, _, _, _, _, _, _, _, _, rfl, _⟩ := h; rfl)
      | (obtain ⟨_, _, _, _, _, _, _, _, _, _, _, _, _, _, _, _, _, _, rfl, _⟩ := h; rfl)
      | (obtain ⟨_, _, _, _, _, _, _, _, _, _, _, _, _, _, _, _, _, _, _, rfl, _⟩ := h; rfl)
  · obtain ⟨p, rfl, hp, k⟩ := h
    refine ⟨_, (pss_cons (ps_par (i := 1) (j := 2) (by rfl) sc_law_number.nd rfl rfl (by decide) rfl rfl (pa_cons (d1 (ok_law_take T) (hr.mono (by decide)) (by rfl) T.m_law_take T.F_law_take.kp T.b_law_take passL (pa_cons (pv 0) (pa_cons pe_int pa_nil))) (pa_cons (pe_op op_sub (d1 (ok_law_take T) (hr.mono (by decide)) (by rfl) T.m_law_take T.F_law_take.kp T.b_law_take passL (pa_cons (pv 0) (pa_cons (pe_op o_mul pe_int (pe_op o_pow pe_int pe_int)) pa_nil))) (pe_op o_pow pe_int pe_int)) pa_nil)) (by rfl))
      (pss_one (ps_ret (pe_ix (k_ix (K := K) rfl) (pe_lst (pa_cons (pv 1) (pa_cons (pv 1) (pa_cons (pe_op op_sub (pv 1) pe_int) (pa_cons (pv 2) pa_nil))))) (d1 (ok_law_take T) (hr.mono (by decide)) (by rfl) T.m_law_take T.F_law_take.kp T.b_law_take passL (pa_cons (pv 0) (pa_cons pe_int pa_nil))) (fun _ _ => rfl))))), ?_⟩
    dsimp only [cxOf, st_1, st_2, st_3, st_4, st_5, st_6, List.length_cons, List.length_nil, List.replicate_succ, List.replicate_zero, Nat.reduceAdd, Nat.reduceSub]
    walk_at "gs"
    refine use_take hp (by decide) (by decide) (fun r1 H1 a1 b1 hp1 k1 => ?_)
    walk_at "gs"
    refine i_pw40 ?_
    walk_at "gs"
    refine use_take hp1 (by decide) (by decide) (fun r2 H2 a2 b2 hp2 k2 => ?_)
    walk_at "gs"
    refine i_pw40 ?_
    walk_at "gs"
    refine i_new fun L fL => ?_
    have kL := Kp.new (ws := []) (o := HO.lst [V.int r1, V.int r1, V.int (r1 - 1), V.int (r2 - 10000000000000000000000000000000000000000)]) fL
    have hL := fresh_at (o := HO.lst [V.int r1, V.int r1, V.int (r1 - 1), V.int (r2 - 10000000000000000000000000000000000000000)]) fL
    have hp5 := hp2.kp kL not_nil
    obtain ⟨H5, e5⟩ : ∃ H5, H5 = upd H2 L (.lst [V.int r1, V.int r1, V.int (r1 - 1), V.int (r2 - 10000000000000000000000000000000000000000)]) := ⟨_, rfl⟩
    rw [← e5] at kL hL hp5 ⊢
    have nLp : L ≠ p := Ne.symm (hp2.ne fL)
    walk_at "gs"
    refine use_take hp5 (by decide) (by decide) (fun r5 H6 a5 b5 hp6 k6 => ?_)
    have hL6 := k6.at_ _ _ hL (not_one nLp)
    have k06 : Kp [p] H H6 := Kp.trans k1 (Kp.trans k2 (Kp.trans kL.wide k6))
    have c : r5 = 0 ∨ r5 = 1 ∨ r5 = 2 ∨ r5 = 3 := by omega
    rcases c with rfl | rfl | rfl | rfl
    · refine i_ixL (SqL.of hL6) (v := .int r1) rfl ?_
      exact k _ H6 ⟨by omega, by omega⟩ hp6 k06
    · refine i_ixL (SqL.of hL6) (v := .int r1) rfl ?_
      exact k _ H6 ⟨by omega, by omega⟩ hp6 k06
    · refine i_ixL (SqL.of hL6) (v := .int (r1 - 1)) rfl ?_
      exact k _ H6 ⟨by omega, by omega⟩ hp6 k06
    · refine i_ixL (SqL.of hL6) (v := .int (r2 - 10000000000000000000000000000000000000000)) rfl ?_
      exact k _ H6 ⟨by omega, by omega⟩ hp6 k06

/-! ### list(zip(x, y)), x and y lists -/
section
open PyProof PyProof.Rows PySem.Calls PySem.Spec PySem.W
variable {z TI TO i1 i2 a b : Addr}
/-- a zip of two lists, behind i pairs that are all held -/
def ZAt (h : Heap) (z TI TO i1 i2 a b : Addr) (i : Nat) : Prop := IsPair h TI (.ref i1) (.ref i2) ∧ h.IsListIter i1 a i ∧ h.IsListIter i2 b i ∧
  ((IsZip h z TI TO .none ∧ ∃ u v, IsPair h TO u v) ∨ ∃ (T : Addr) (f : Bool) (o : Obj), IsZipHeld h z TI TO T f ∧ h.get? T = some o ∧ T ≠ z ∧ T ≠ i1 ∧ T ≠ i2)
theorem ZAt.ty {s : Shared} {i : Nat} (q : ZAt s.heap z TI TO i1 i2 a b i) : s.TypeIs (.ref z) "zip" := by
  obtain ⟨_, _, _, ⟨e, _⟩ | ⟨_, _, _, e, _⟩⟩ := q
  · exact ⟨_, e, rfl⟩
  · exact ⟨_, e, rfl⟩
/-- a write at an object S that stays there -/
theorem ZAt.by {h g : Heap} {i : Nat} {S : Addr} (q : ZAt h z TI TO i1 i2 a b i) (hS : S ≠ z ∧ S ≠ TI ∧ S ≠ TO ∧ S ≠ i1 ∧ S ≠ i2) (k : ∀ c o, c ≠ S → h.get? c = some o → g.get? c = some o) (there : ∃ o, g.get? S = some o) : ZAt g z TI TO i1 i2 a b i := by
  obtain ⟨s1, s2, s3, s4, s5⟩ := hS
  obtain ⟨q1, q2, q3, q4⟩ := q
  refine ⟨k _ _ s2.symm q1, q2.at fun o e => k _ _ s4.symm e, q3.at fun o e => k _ _ s5.symm e, ?_⟩
  rcases q4 with ⟨e, u, v, e2⟩ | ⟨T, f, o, e, e2, t⟩
  · exact .inl ⟨k _ _ s1.symm e, u, v, k _ _ s3.symm e2⟩
  · by_cases c : T = S
    · obtain ⟨o', e'⟩ := there
      exact .inr ⟨T, f, o', k _ _ s1.symm e, by rw [c]; exact e', t⟩
    · exact .inr ⟨T, f, o, k _ _ s1.symm e, k _ _ c e2, t⟩
section
variable {prog : Program} {w : World} {A : Around} {E : Value → Shared → Prop} {s : Shared} {xs ys : Array Value} {i : Nat}
theorem ZAt.item {x y : Value} {Q : Option Value → Shared → Prop} (D : ZipApart z TI TO i1 i2 a b) (q : ZAt s.heap z TI TO i1 i2 a b i) (l1 : s.heap.IsList a xs) (l2 : s.heap.IsList b ys) (ex : xs[i]? = some x) (ey : ys[i]? = some y)
    (go : ∀ g, ZAt g z TI TO i1 i2 a b (i + 1) → IsPair g s.heap.objs.size x y → (∀ c o, c ∉ [z, TI, TO, i1, i2] → s.heap.get? c = some o → g.get? c = some o) → Q (some (.ref s.heap.objs.size)) { s with heap := g }) :
    wpAny (model prog w) A (pyNext (.ref z)) Q E s := by
  obtain ⟨q1, q2, q3, q4⟩ := q
  have apart : s.heap.objs.size ≠ i1 ∧ s.heap.objs.size ≠ i2 := by
    obtain ⟨_, e1, _⟩ := q2
    obtain ⟨_, e2, _⟩ := q3
    exact ⟨Nat.ne_of_gt (Heap.lt_size e1), Nat.ne_of_gt (Heap.lt_size e2)⟩
  rcases q4 with ⟨e, u, v, e2⟩ | ⟨T, f, o, e, e2, t1, t2, t3⟩
  · refine wpAny_pyNext_zip_item D e q1 e2 q2 q3 l1 l2 ex ey fun g z1 z2 z3 z4 z5 z6 z7 => go g ⟨?_, z3, z4, .inr ⟨s.heap.objs.size, false, _, z1, z5, Nat.ne_of_gt (Heap.lt_size e), apart.1, apart.2⟩⟩ z5 fun c o hc eo => ?_
    · exact z7 _ _ D.TIz D.TITO D.TIi1 D.TIi2 q1
    · simp only [List.mem_cons, List.not_mem_nil, or_false, not_or] at hc
      exact z7 c o hc.1 hc.2.2.1 hc.2.2.2.1 hc.2.2.2.2 eo
  · refine wpAny_pyNext_zip_item_held D e e2 q1 q2 q3 l1 l2 ex ey fun g z1 z3 z4 z5 z6 z7 => go g ⟨?_, z3, z4, .inr ⟨T, true, o, z1, z7 _ _ t1 t2 t3 e2, t1, t2, t3⟩⟩ z5 fun c o hc eo => ?_
    · exact z7 _ _ D.TIz D.TIi1 D.TIi2 q1
    · simp only [List.mem_cons, List.not_mem_nil, or_false, not_or] at hc
      exact z7 c o hc.1 hc.2.2.2.1 hc.2.2.2.2 eo
theorem ZAt.stop {Q : Option Value → Shared → Prop} (hh : A.handled = none) (D : ZipApart z TI TO i1 i2 a b) (q : ZAt s.heap z TI TO i1 i2 a b i) (l1 : s.heap.IsList a xs) (l2 : s.heap.IsList b ys) (en : xs[i]? = none ∨ ys[i]? = none)
    (go : ∀ g, (∀ c o, c ∉ [z, TI, TO, i1, i2] → s.heap.get? c = some o → g.get? c = some o) → Q none { s with heap := g }) : wpAny (model prog w) A (pyNext (.ref z)) Q E s := by
  obtain ⟨q1, q2, q3, q4⟩ := q
  rcases q4 with ⟨e, u, v, e2⟩ | ⟨T, f, o, e, e2, t1, t2, t3⟩
  · refine wpAny_pyNext_zip_end hh D e q1 e2 q2 q3 l1 l2 en fun g k => go g fun c o hc eo => ?_
    simp only [List.mem_cons, List.not_mem_nil, or_false, not_or] at hc
    exact k c o hc.1 hc.2.2.1 hc.2.2.2.1 hc.2.2.2.2 eo
  · refine wpAny_pyNext_zip_end_held hh D e e2 q1 q2 q3 l1 l2 en fun g k => go g fun c o hc eo => ?_
    simp only [List.mem_cons, List.not_mem_nil, or_false, not_or] at hc
    exact k c o hc.1 hc.2.2.2.1 hc.2.2.2.2 eo
theorem ZAt.self {Q : Value → Shared → Prop} (q : ZAt s.heap z TI TO i1 i2 a b i) (h : Q (.ref z) s) : wpAny (model prog w) A (pyIter (.ref z)) Q E s := by
  obtain ⟨_, _, _, ⟨e, _⟩ | ⟨_, _, _, e, _⟩⟩ := q
  · exact wpAny_pyIter_zip e h
  · have ty : s.TypeIs (.ref z) "zip" := ⟨_, e, rfl⟩
    refine wpAny_pyIter_slot ty F.slot_zip_iter (wpAny_call_entry F.slot_zip_iter ty F.entry_zip_iter (wpAny_pure ⟨_, rfl, "zip", _, ty, F.slot_zip_next.lookup, h⟩) (F.args_zip_iter_1 _))
theorem zip_no_len : typeLookup (.type "zip") "__len__" = pure none := by rw [typeLookup_type, builtinLookup_eq_fast]; kernel_rfl
theorem zip_no_hint : typeLookup (.type "zip") "__length_hint__" = pure none := by rw [typeLookup_type, builtinLookup_eq_fast]; kernel_rfl
theorem zip_room {Q : Bool → Shared → Prop} (ty : s.TypeIs (.ref z) "zip") (h : Q true s) : wpAny (model prog w) A (Builtin.List.listLengthHint (.ref z)) Q E s := by
  unfold Builtin.List.listLengthHint
  refine wpAny_bind (wpAny_specialOf ty zip_no_len ?_)
  show wpAny _ _ (specialOf (Value.ref z) "__length_hint__" >>= _) _ _ _
  refine wpAny_bind (wpAny_specialOf ty zip_no_hint ?_)
  exact wpAny_pure h
end
end
section
open PyProof PyProof.Rows PySem.Calls PySem.Spec PySem.W
/-- what list(zip(..)) has laid from the turn i on -/
structure Zd (H H' : Hp) (S : Addr) (xs ys : List V) (i : Nat) (ps : List Addr) : Prop where
  len : ps.length = min xs.length ys.length - i
  at' : ∀ j p, ps[j]? = some p → ∃ x y, xs[i + j]? = some x ∧ ys[i + j]? = some y ∧ H' p = some (.tup [x, y]) ∧ H p = none
  kept : ∀ c v, c ≠ S → H c = some v → H' c = some v
theorem zip_loop {X : Cx} {pins : List (Addr × Obj)} {σ : L2.St} {A : Around} {R : Result → Shared → Prop} {z TI TO i1 i2 a b S : Addr} {xs ys : List V} {res : Value} (hh : A.handled = none) (D : ZipApart z TI TO i1 i2 a b)
    (hS : S ∉ [z, TI, TO, i1, i2]) (aS : a ≠ S) (bS : b ≠ S) : ∀ (k i : Nat) (s : Shared) (H : Hp) (acc : List V), min xs.length ys.length - i = k → i ≤ min xs.length ys.length → Inv X pins σ H s → H a = some (.lst xs) → H b = some (.lst ys) →
    ZAt s.heap z TI TO i1 i2 a b i → H S = some (.lst acc) → acc.length = i → (∀ c ∈ [z, TI, TO, i1, i2], FpOk X pins H c ∧ c < s.heap.objs.size) →
    (∀ H' s' ps, Inv X pins σ H' s' → H' S = some (.lst (acc ++ ps.map V.ref)) → Zd H H' S xs ys i ps → R (.ok (.ret res)) s') →
    codeAny (model X.prog X.w) A (.builtin "list.extend.loop" ⟨[.ref S, .ref z, res], []⟩) R s := by
  have s5 : S ≠ z ∧ S ≠ TI ∧ S ≠ TO ∧ S ≠ i1 ∧ S ≠ i2 := by simpa using hS
  intro k
  induction k with
  | zero =>
    intro i s H acc ek hi I ha hb q hl el fp go
    obtain ⟨ia, ra, la, za⟩ := I.list (.inl (.inl ha))
    obtain ⟨ib, rb, lb, zb⟩ := I.list (.inl (.inl hb))
    have na := ra.length
    have nb := rb.length
    refine codeAny_builtin F.entry_extend_loop ?_; rw [Around.under_plainId F.plain_extend_loop _]; show wpAny _ A.in1 (pyNext (.ref z) >>= _) _ _ s
    have en : ia.toArray[i]? = none ∨ ib.toArray[i]? = none := by
      rcases (show xs.length ≤ i ∨ ys.length ≤ i by omega) with w | w
      · exact .inl (by simp; omega)
      · exact .inr (by simp; omega)
    refine wpAny_bind (q.stop (A := A.in1) hh D la.isList lb.isList en fun g kg => wpAny_pure ?_)
    refine go H _ [] (I.turnedL (t' := s.toks) kg fun c hc => (fp c hc).1) (by rw [List.map_nil, List.append_nil]; exact hl) ⟨by simp; omega, fun j p e => by simp at e, fun c v _ e => e⟩
  | succ k ih =>
    intro i s H acc ek hi I ha hb q hl el fp go
    obtain ⟨ia, ra, la, za⟩ := I.list (.inl (.inl ha))
    obtain ⟨ib, rb, lb, zb⟩ := I.list (.inl (.inl hb))
    have na := ra.length
    have nb := rb.length
    have hx : xs[i]? = some xs[i] := List.getElem?_eq_getElem (by omega)
    have hy : ys[i]? = some ys[i] := List.getElem?_eq_getElem (by omega)
    generalize xs[i] = x at hx
    generalize ys[i] = y at hy
    obtain ⟨u, hu, ru⟩ := ra.get hx
    obtain ⟨v, hv, rv⟩ := rb.get hy
    refine codeAny_builtin F.entry_extend_loop ?_; rw [Around.under_plainId F.plain_extend_loop _]; show wpAny _ A.in1 (pyNext (.ref z) >>= _) _ _ s
    refine wpAny_bind (q.item D la.isList lb.isList (x := u) (y := v) (by simpa using hu) (by simpa using hv) fun g q1 pr kg => ?_)
    have fT : H s.heap.objs.size = none := I.hok.fresh (Nat.le_refl _)
    have new : ObjOk X.prog X.w (upd H s.heap.objs.size (.tup [x, y])) g s.heap.objs.size (.tup [x, y]) :=
      ⟨by show 2 ≤ sizeLine; decide, [u, v], .cons ru (.cons rv .nil), ⟨_, pr, rfl, _, rfl⟩⟩
    have I1 : Inv X pins σ (upd H s.heap.objs.size (.tup [x, y])) { s with heap := g } := I.turnedNew (t' := s.toks) (ch := [z, TI, TO, i1, i2]) kg (fun c hc => (fp c hc).1) (Nat.le_refl _) new
    obtain ⟨T, eT⟩ : ∃ T, T = s.heap.objs.size := ⟨_, rfl⟩
    have lS : S < s.heap.objs.size := by
      obtain ⟨_, _, _, _, w⟩ := I.hok S _ hl
      exact Heap.lt_size w
    have gT : T < g.objs.size := by
      rw [eT]
      exact Heap.lt_size pr
    have oth : ∀ c, c ≠ T → ∀ w, H c = some w → upd H T (.tup [x, y]) c = some w := fun c hc w e => by
      rw [upd_ne hc]
      exact e
    rw [← eT] at I1 fT new ⊢
    have ST : S ≠ T := fun w => absurd lS (by rw [w, eT]; exact Nat.lt_irrefl _)
    have hl1 := oth S ST _ hl
    obtain ⟨zl, its, n, rl, ob⟩ := I1.hok S _ hl1
    have hz : its.length = i := by rw [← rl.length]; exact el
    show wpAny _ A.in1 (updateSeq S (·.push (.ref T)) >>= _) _ _ _
    refine wpAny_bind (wpAny_updateSeq (s := { s with heap := g }) ob rfl (wpAny_pure ⟨plainId_quiet F.plain_extend_loop _, ?_⟩) (by simp; omega) (by simp; omega))
    have ob2 := Heap.get?_update_self (Obj.mapSeq (·.push (Value.ref T))) ob rfl
    have I2 := I1.write (x := S) (e := S) (o := .lst (acc ++ [V.ref T])) (t' := s.toks) (h' := g.update S (Obj.mapSeq (·.push (Value.ref T)))) (by rw [hl1]; trivial) (.inl rfl)
      (fun c o hc e => (Heap.get?_update_other _ _ (Ne.symm hc)).trans e) ⟨_, ob2⟩ ⟨by simp; omega, its ++ [.ref T], _, rl.append (.cons (show RelV (V.ref T) (Value.ref T) from rfl) .nil), by simpa [Obj.mapSeq] using ob2⟩
    have keep2 : ∀ c o, c ≠ S → g.get? c = some o → (g.update S (Obj.mapSeq (·.push (Value.ref T)))).get? c = some o := fun c o hc e => (Heap.get?_update_other _ _ (Ne.symm hc)).trans e
    refine ih (i + 1) _ _ (acc ++ [V.ref T]) (by omega) (by omega) I2 ?_ ?_ (q1.by s5 keep2 ⟨_, ob2⟩) upd_same (by simp; omega) (fun c hc => ?_) fun H' s' ps J jl jz => ?_
    · rw [upd_ne aS]
      exact oth a (fun w => by rw [w, fT] at ha; cases ha) _ ha
    · rw [upd_ne bS]
      exact oth b (fun w => by rw [w, fT] at hb; cases hb) _ hb
    · obtain ⟨f1, f2⟩ := fp c hc
      have cS : c ≠ S := fun w => hS (w ▸ hc)
      have cT : c ≠ T := fun w => absurd f2 (by rw [w, eT]; exact Nat.lt_irrefl _)
      refine ⟨⟨?_, f1.2⟩, ?_⟩
      · rw [upd_ne cS, upd_ne cT]
        exact f1.1
      · show c < (g.update S _).objs.size
        rw [Heap.size_update]
        exact Nat.lt_trans f2 (by rw [← eT]; exact gT)
    · refine go H' s' (T :: ps) J (by rw [List.map_cons, List.append_cons]; exact jl) ⟨?_, fun j p e => ?_, fun c w hc e => ?_⟩
      · have := jz.len
        simp only [List.length_cons]
        omega
      · cases j with
        | zero =>
          simp only [List.getElem?_cons_zero, Option.some.injEq] at e
          subst e
          exact ⟨x, y, hx, hy, jz.kept _ _ ST.symm (by rw [upd_ne ST.symm, upd_same]), fT⟩
        | succ j =>
          simp only [List.getElem?_cons_succ] at e
          obtain ⟨x', y', e1, e2, e3, e4⟩ := jz.at' j p e
          refine ⟨x', y', by rw [← e1]; congr 1; omega, by rw [← e2]; congr 1; omega, e3, ?_⟩
          have pS : p ≠ S := fun w => by rw [w, upd_same] at e4; cases e4
          have pT : p ≠ T := fun w => by rw [w, upd_ne ST.symm, upd_same] at e4; cases e4
          rw [upd_ne pS, upd_ne pT] at e4
          exact e4
      · refine jz.kept c w hc ?_
        rw [upd_ne hc]
        exact oth c (fun q => by rw [q, fT] at e; cases e) _ e
end
section
open PyProof PyProof.Rows PySem.Calls PySem.Spec PySem.W
theorem zip_list {X : Cx} {pins : List (Addr × Obj)} {σ : L2.St} {H : Hp} {s : Shared} {A : Around} {E : Value → Shared → Prop} {Q : Value → Shared → Prop} {z TI TO i1 i2 a b : Addr} {xs ys : List V} (hh : A.handled = none) (D : ZipApart z TI TO i1 i2 a b)
    (I : Inv X pins σ H s) (ha : H a = some (.lst xs)) (hb : H b = some (.lst ys)) (q : ZAt s.heap z TI TO i1 i2 a b 0) (fp : ∀ c ∈ [z, TI, TO, i1, i2], FpOk X pins H c ∧ c < s.heap.objs.size)
    (go : ∀ H' s' S ps, Inv X pins σ H' s' → Fr H S → H' S = some (.lst (ps.map V.ref)) → Zd H H' S xs ys 0 ps → Q (.ref S) s') :
    wpAny (model X.prog X.w) A (call (.type "list") [.ref z]) Q E s := by
  obtain ⟨S, eS⟩ : ∃ S, S = s.heap.objs.size := ⟨_, rfl⟩
  have fS : H S = none := I.hok.fresh (by rw [eS]; exact Nat.le_refl _)
  have nS : S ∉ [z, TI, TO, i1, i2] := fun m => absurd (fp S m).2 (by rw [eS]; exact Nat.lt_irrefl _)
  have s5 : S ≠ z ∧ S ≠ TI ∧ S ≠ TO ∧ S ≠ i1 ∧ S ≠ i2 := by simpa using nS
  have aS : a ≠ S := fun w => by rw [w, fS] at ha; cases ha
  have bS : b ≠ S := fun w => by rw [w, fS] at hb; cases hb
  refine callType_codes (Q₁ := fun obj t => obj = .ref S ∧ t = { s with heap := s.heap.push { cls := .type "list", data := .seq #[] } }) PySem.F.called_list (PySem.F.typeCall_list_1 _) PySem.F.entry_list_init (code_list_new _ ⟨by rw [eS], rfl⟩) fun obj t ht => ?_
  obtain ⟨eo, et⟩ := ht
  subst eo et
  have ob0 : (s.heap.push { cls := .type "list", data := .seq #[] }).get? S = some { cls := .type "list", data := .seq #[] } := by rw [eS]; exact Heap.get?_push_size _ rfl
  have k0 : ∀ c o, s.heap.get? c = some o → (s.heap.push { cls := .type "list", data := .seq #[] }).get? c = some o := fun c o e => Heap.get?_push_of_some _ e
  refine ⟨⟨_, ob0, rfl⟩, PySem.F.args_list_init_2 _ _, ?_⟩
  show wpAny _ _ (do let old ← Builtin.List.listItems (.ref S); Builtin.List.listUpdate (.ref S) (fun _ => #[]); letGo old.toList.reverse; Builtin.List.listExtendWith (.ref S) (.ref z) .none) _ _ _
  refine wpAny_bind ?_
  unfold Builtin.List.listItems
  refine wpAny_bind (wpAny_seqItems ob0 rfl (wpAny_pure ?_))
  show wpAny _ _ (updateSeq S (fun _ => #[]) >>= fun _ => letGo (#[] : Array Value).toList.reverse >>= fun _ => Builtin.List.listExtendWith (.ref S) (.ref z) .none) _ _ _
  refine wpAny_bind (wpAny_updateSeq ob0 rfl ?_)
  have ob1 := Heap.get?_update_self (Obj.mapSeq (fun _ => (#[] : Array Value))) ob0 rfl
  have k1 : ∀ c o, c ≠ S → s.heap.get? c = some o → ((s.heap.push { cls := .type "list", data := .seq #[] }).update S (Obj.mapSeq (fun _ => (#[] : Array Value)))).get? c = some o :=
    fun c o hc e => (Heap.get?_update_other _ _ (Ne.symm hc)).trans (k0 c o e)
  refine wpAny_bind (wpAny_letGo ?_)
  have q1 : ZAt _ z TI TO i1 i2 a b 0 := q.by s5 k1 ⟨_, ob1⟩
  unfold Builtin.List.listExtendWith
  refine wpAny_bind (wpAny_typeOf (T := "zip") q1.ty ?_)
  have n1 : Builtin.List.listSameRef (.ref S) (.ref z) = false := by simp [Builtin.List.listSameRef, s5.1]
  have n2 : (Value.type "zip" == Value.type "list") = false := by decide
  have n3 : (Value.type "zip" == Value.type "tuple") = false := by decide
  simp only [n1, n2, n3, Bool.or_false, Bool.false_eq_true, if_false]
  refine wpAny_bind (q1.self (wpAny_bind (wpAny_holding (zip_room q1.ty ?_))))
  simp only [Bool.true_or, if_true]
  refine wpAny_bind (wpAny_rule (wpAny_bind ?_))
  show wpAny _ _ (updateSeq S (fun v => v.push .none) >>= fun _ => updateSeq S (fun v => v.pop)) _ _ _
  refine wpAny_bind (wpAny_updateSeq ob1 rfl ?_)
  have ob2 := Heap.get?_update_self (Obj.mapSeq (fun v => v.push Value.none)) ob1 rfl
  refine wpAny_updateSeq (hz := by seq_fits) ob2 rfl ?_
  have ob3 := Heap.get?_update_self (Obj.mapSeq (fun v => v.pop)) ob2 rfl
  have k3 := fun c o (hc : c ≠ S) (e : s.heap.get? c = some o) => (Heap.get?_update_other _ (Obj.mapSeq (fun v => v.pop)) (Ne.symm hc)).trans ((Heap.get?_update_other _ (Obj.mapSeq (fun v => v.push Value.none)) (Ne.symm hc)).trans (k1 c o hc e))
  have q3 : ZAt _ z TI TO i1 i2 a b 0 := q.by s5 k3 ⟨_, ob3⟩
  have ne : ∀ c o, s.heap.get? c = some o → c ≠ S := fun c o e => by
    rw [eS]
    exact Nat.ne_of_lt (Heap.lt_size e)
  have I3 := I.laid (a := S) (o := .lst []) (t' := s.toks) (fun c o e => k3 c o (ne c o e) e) (by rw [eS]; exact Nat.le_refl _) ⟨Nat.zero_le _, [], _, .nil, ob3⟩
  refine wpAny_pure ⟨plainId_quiet F.plain_extend_loop _, ?_⟩
  refine zip_loop (A := A.in1) hh D nS aS bS _ 0 _ _ [] rfl (Nat.zero_le _) I3 (by rw [upd_ne aS]; exact ha) (by rw [upd_ne bS]; exact hb) q3 upd_same rfl (fun c hc => ?_) fun H' s' ps J jl jz => ?_
  · obtain ⟨f1, f2⟩ := fp c hc
    have cS : c ≠ S := fun w => nS (w ▸ hc)
    refine ⟨⟨by rw [upd_ne cS]; exact f1.1, f1.2⟩, ?_⟩
    show c < (Heap.update _ _ _).objs.size
    rw [Heap.size_update, Heap.size_update, Heap.size_update, Heap.size_push]
    exact Nat.lt_succ_of_lt f2
  · refine ⟨rfl, go H' s' S ps J ⟨fS⟩ jl ⟨jz.len, fun j p e => ?_, fun c w hc e => jz.kept c w hc (by rw [upd_ne hc]; exact e)⟩⟩
    obtain ⟨x, y, e1, e2, e3, e4⟩ := jz.at' j p e
    refine ⟨x, y, e1, e2, e3, ?_⟩
    have pS : p ≠ S := fun w => by rw [w, upd_same] at e4; cases e4
    rw [upd_ne pS] at e4
    exact e4
end
section
open PyProof PyProof.Rows PySem.Calls PySem.Spec PySem.W
variable {X : Cx}
def LZip (vs : List V) (H1 : Hp) (Q : VK) : Prop := ∃ (a b : Addr) (xs ys : List V), vs = [.ref a, .ref b] ∧ H1 a = some (.lst xs) ∧ H1 b = some (.lst ys) ∧ ∀ (H' : Hp) (S : Addr) (ps : List Addr), Fr H1 S → H' S = some (.lst (ps.map V.ref)) → Zd H1 H' S xs ys 0 ps → Q (.ref S) H'
def tListZip (ta : TA) : TE := fun σ H Q => ta σ H fun vs H1 => LZip vs H1 Q
theorem i_listZip {ta : TA} {σ : L2.St} {H : Hp} {Q : VK} (h : ta σ H fun vs H1 => LZip vs H1 Q) : tListZip ta σ H Q := h
theorem pe_listZip {e e2 : Expr} {ta : TA} {p p2 pos pos2 : Pos} (calm : X.calm = true) (hg : Gl X "list") (hm : X.mg "list" = none) (hg2 : Gl X "zip") (hm2 : X.mg "zip" = none) (ha : PA X [e, e2] ta)
    (hs : starEach [e, e2] X.env = (false, eval e X.env) :: starEach [e2] X.env := by rfl) (hpl : (backTo pos2 (starEach [e2] X.env)).any (·.1) = false := by rfl)
    (one : starEach [Expr.Call (.Name "zip" p2) [e, e2] [] pos2] X.env = (false, eval (Expr.Call (.Name "zip" p2) [e, e2] [] pos2) X.env) :: starEach [] X.env := by rfl) :
    PE X (.Call (.Name "list" p) [.Call (.Name "zip" p2) [e, e2] [] pos2] [] pos) (tListZip ta) := by
  refine ⟨fun pins s σ H Q I q0 => ?_⟩
  refine Call_ (ld_blt I hg hm boot_list (PyProof.Rows.callWith_type1 (PyProof.Rows.args_cons ?_ one) one rfl))
  refine Call_ (ld_blt I hg2 hm2 PyProof.Rows.boot_zip (PyProof.Rows.callWith_type1 (thn (ha.run pos2 pins s σ H _ I q0) fun us s1 w => ?_) hs hpl))
  obtain ⟨vs, H1, I1, r1, a, b, xs, ys, ev, ea, eb, q⟩ := w
  subst ev
  obtain ⟨u1, u2, rfl, r2, r3⟩ := vals2 r1
  obtain rfl : u1 = Value.ref a := r2
  obtain rfl : u2 = Value.ref b := r3
  obtain ⟨ia, va, la, za⟩ := I1.list (.inl (.inl ea))
  obtain ⟨ib, vb, lb, zb⟩ := I1.list (.inl (.inl eb))
  refine call_zip_2 la.isList lb.isList fun g w1 w2 w3 w4 w5 w6 kg => PyProof.Rows.args_nil ?_
  have I2 : Inv X pins σ H1 { s1 with heap := g } := I1.kept (t' := s1.toks) kg
  refine zip_list (A := X.A) (I.ok.hd calm) (PySem.W.ktu_apart s1.heap.objs.size a b la.lt lb.lt) I2 ea eb ⟨w2, w4, w5, .inl ⟨w1, _, _, w3⟩⟩ (fun c hc => ?_) fun H' s' S ps J fr jl jz => ⟨.ref S, H', J, rfl, q H' S ps fr jl jz⟩
  have hle : s1.heap.objs.size ≤ c ∧ c < s1.heap.objs.size + 5 := by
    simp only [List.mem_cons, List.not_mem_nil, or_false] at hc
    rcases hc with rfl | rfl | rfl | rfl | rfl
    · exact ⟨Nat.le_add_right _ _, Nat.lt_succ_self _⟩
    · exact ⟨Nat.le_add_right _ _, Nat.add_lt_add_left (by decide) _⟩
    · exact ⟨Nat.le_add_right _ _, Nat.add_lt_add_left (by decide) _⟩
    · exact ⟨Nat.le_refl _, Nat.lt_add_of_pos_right (by decide)⟩
    · exact ⟨Nat.le_add_right _ _, Nat.add_lt_add_left (by decide) _⟩
  exact ⟨I1.fpOk hle.1 (I1.hok.fresh hle.1), by show c < g.objs.size; rw [w6]; exact hle.2⟩
end

/-! ### for i, (x, y) in enumerate(zip(xs, ys)) -/
section
open PyProof PyProof.Rows PySem.Calls PySem.Spec PySem.W
variable {z TI TO i1 i2 a b e : Addr}
/-- a zip of two lists behind i pairs: none handed out, or the one at T, that may still be there -/
def ZSt (h : Heap) (z TI TO i1 i2 a b : Addr) (i : Nat) : Option Addr → Prop
  | none => (IsPair h TI (.ref i1) (.ref i2) ∧ h.IsListIter i1 a i ∧ h.IsListIter i2 b i) ∧ IsZip h z TI TO .none ∧ ∃ u v, IsPair h TO u v
  | some T => (IsPair h TI (.ref i1) (.ref i2) ∧ h.IsListIter i1 a i ∧ h.IsListIter i2 b i) ∧ (∃ u v, IsPair h TO u v) ∧ ∃ f, IsZipHeld h z TI TO T f
theorem ZSt.by {h g : Heap} {i : Nat} {t : Option Addr} (q : ZSt h z TI TO i1 i2 a b i t) (k : ∀ c ∈ [z, TI, TO, i1, i2], ∀ o, h.get? c = some o → g.get? c = some o) : ZSt g z TI TO i1 i2 a b i t := by
  cases t with
  | none =>
    obtain ⟨⟨q1, q2, q3⟩, q4, u, v, q5⟩ := q
    exact ⟨⟨k TI (by simp) _ q1, q2.at fun o => k i1 (by simp) o, q3.at fun o => k i2 (by simp) o⟩, k z (by simp) _ q4, u, v, k TO (by simp) _ q5⟩
  | some T =>
    obtain ⟨⟨q1, q2, q3⟩, ⟨u, v, q5⟩, f, q4⟩ := q
    exact ⟨⟨k TI (by simp) _ q1, q2.at fun o => k i1 (by simp) o, q3.at fun o => k i2 (by simp) o⟩, ⟨u, v, k TO (by simp) _ q5⟩, f, k z (by simp) _ q4⟩
theorem ZSt.there {h : Heap} {i : Nat} {t : Option Addr} (q : ZSt h z TI TO i1 i2 a b i t) : ∀ c ∈ [z, TI, TO, i1, i2], ∃ o, h.get? c = some o ∧ ∀ v, o.data ≠ .cell v := by
  have all : ∃ oz, h.get? z = some oz ∧ (∀ v, oz.data ≠ .cell v) := by
    cases t with
    | none => exact ⟨_, q.2.1, fun v y => nomatch y⟩
    | some T =>
      obtain ⟨_, _, f, y⟩ := q
      exact ⟨_, y, fun v y => nomatch y⟩
  have rest : (IsPair h TI (.ref i1) (.ref i2) ∧ h.IsListIter i1 a i ∧ h.IsListIter i2 b i) ∧ ∃ u v, IsPair h TO u v := by
    cases t with
    | none => exact ⟨q.1, q.2.2⟩
    | some T => exact ⟨q.1, q.2.1⟩
  obtain ⟨⟨q1, ⟨o2, e2, _, d2⟩, ⟨o3, e3, _, d3⟩⟩, u, v, q5⟩ := rest
  intro c hc
  simp only [List.mem_cons, List.not_mem_nil, or_false] at hc
  rcases hc with rfl | rfl | rfl | rfl | rfl
  · exact all
  · exact ⟨_, q1, fun v y => nomatch y⟩
  · exact ⟨_, q5, fun v y => nomatch y⟩
  · exact ⟨o2, e2, fun v y => by rw [d2] at y; cases y⟩
  · exact ⟨o3, e3, fun v y => by rw [d3] at y; cases y⟩
section
variable {prog : Program} {w : World} {A : Around} {E : Value → Shared → Prop} {s : Shared} {xs ys : Array Value} {i : Nat} {t : Option Addr}
theorem ZSt.draw {x y : Value} {Q : Value → Shared → Prop} (D : ZipApart z TI TO i1 i2 a b) (q : ZSt s.heap z TI TO i1 i2 a b i t) (al : ∀ T, t = some T → ∃ o, s.heap.get? T = some o) (l1 : s.heap.IsList a xs) (l2 : s.heap.IsList b ys) (ex : xs[i]? = some x) (ey : ys[i]? = some y)
    (go : ∀ g, g.objs.size = s.heap.objs.size + 1 → ZSt g z TI TO i1 i2 a b (i + 1) (some (t.getD s.heap.objs.size)) → IsPair g s.heap.objs.size x y → (∀ c o, c ∉ [z, TI, TO, i1, i2] → s.heap.get? c = some o → g.get? c = some o) → Q (.ref s.heap.objs.size) { s with heap := g }) :
    wpAny (model prog w) A (Builtin.SmallTypes.nextOf (.ref z)) Q E s := by
  cases t with
  | none =>
    obtain ⟨⟨q1, q2, q3⟩, e1, u, v, e2⟩ := q
    have ty : s.TypeIs (.ref z) "zip" := ⟨_, e1, rfl⟩
    delta Builtin.SmallTypes.nextOf
    refine wpAny_bind (wpAny_callSpecial?_slot (name := Str.ofString "__next__") ty F.slot_zip_next (wpAny_call_entry F.slot_zip_next ty F.entry_zip_next (zip_next_item D e1 q1 e2 q2 q3 l1 l2 ex ey fun g z1 z2 z3 z4 z5 z6 z7 => wpAny_pure (go g z6 ⟨⟨z7 _ _ D.TIz D.TITO D.TIi1 D.TIi2 q1, z3, z4⟩, ⟨_, _, z2⟩, false, z1⟩ z5 fun c o hc eo => ?_)) (F.args_zip_next_1 _)))
    simp only [List.mem_cons, List.not_mem_nil, or_false, not_or] at hc
    exact z7 c o hc.1 hc.2.2.1 hc.2.2.2.1 hc.2.2.2.2 eo
  | some T =>
    obtain ⟨⟨q1, q2, q3⟩, ⟨u, v, e2⟩, f, e1⟩ := q
    obtain ⟨oT, eT⟩ := al T rfl
    have ty : s.TypeIs (.ref z) "zip" := ⟨_, e1, rfl⟩
    delta Builtin.SmallTypes.nextOf
    refine wpAny_bind (wpAny_callSpecial?_slot (name := Str.ofString "__next__") ty F.slot_zip_next (wpAny_call_entry F.slot_zip_next ty F.entry_zip_next (zip_next_item_held D e1 eT q1 q2 q3 l1 l2 ex ey fun g z1 z3 z4 z5 z6 z7 => wpAny_pure (go g z6 ⟨⟨z7 _ _ D.TIz D.TIi1 D.TIi2 q1, z3, z4⟩, ⟨u, v, z7 _ _ D.TOz D.TOi1 D.TOi2 e2⟩, true, z1⟩ z5 fun c o hc eo => ?_)) (F.args_zip_next_1 _)))
    simp only [List.mem_cons, List.not_mem_nil, or_false, not_or] at hc
    exact z7 c o hc.1 hc.2.2.2.1 hc.2.2.2.2 eo
theorem ZSt.last {Q : Value → Shared → Prop} (hh : A.handled = none) (D : ZipApart z TI TO i1 i2 a b) (q : ZSt s.heap z TI TO i1 i2 a b i t) (al : ∀ T, t = some T → ∃ o, s.heap.get? T = some o) (l1 : s.heap.IsList a xs) (l2 : s.heap.IsList b ys) (en : xs[i]? = none ∨ ys[i]? = none)
    (go : ∀ g x, (∀ c o, c ∉ [z, TI, TO, i1, i2] → s.heap.get? c = some o → g.get? c = some o) → (∃ o, g.get? x = some o ∧ o.cls = .type "StopIteration") → E (.ref x) { s with heap := g }) :
    wpAny (model prog w) A (Builtin.SmallTypes.nextOf (.ref z)) Q E s := by
  cases t with
  | none =>
    obtain ⟨⟨q1, q2, q3⟩, e1, u, v, e2⟩ := q
    have ty : s.TypeIs (.ref z) "zip" := ⟨_, e1, rfl⟩
    delta Builtin.SmallTypes.nextOf
    refine wpAny_bind (wpAny_callSpecial?_slot (name := Str.ofString "__next__") ty F.slot_zip_next (wpAny_call_entry F.slot_zip_next ty F.entry_zip_next (zip_next_end hh D e1 q1 e2 q2 q3 l1 l2 en fun g x k ho => go g x (fun c o hc eo => ?_) ho) (F.args_zip_next_1 _)))
    simp only [List.mem_cons, List.not_mem_nil, or_false, not_or] at hc
    exact k c o hc.1 hc.2.2.1 hc.2.2.2.1 hc.2.2.2.2 eo
  | some T =>
    obtain ⟨⟨q1, q2, q3⟩, ⟨u, v, e2⟩, f, e1⟩ := q
    obtain ⟨oT, eT⟩ := al T rfl
    have ty : s.TypeIs (.ref z) "zip" := ⟨_, e1, rfl⟩
    delta Builtin.SmallTypes.nextOf
    refine wpAny_bind (wpAny_callSpecial?_slot (name := Str.ofString "__next__") ty F.slot_zip_next (wpAny_call_entry F.slot_zip_next ty F.entry_zip_next (zip_next_end_held hh D e1 eT q1 q2 q3 l1 l2 en fun g x k ho => go g x (fun c o hc eo => ?_) ho) (F.args_zip_next_1 _)))
    simp only [List.mem_cons, List.not_mem_nil, or_false, not_or] at hc
    exact k c o hc.1 hc.2.2.2.1 hc.2.2.2.2 eo
theorem ez_next {x y old : Value} {Q : Value → Shared → Prop} (D : ZipApart z TI TO i1 i2 a b) (ne : e ∉ [z, TI, TO, i1, i2]) (he : IsEnum s.heap e z ((i : Nat) : Int) old) (q : ZSt s.heap z TI TO i1 i2 a b i t) (al : ∀ T, t = some T → ∃ o, s.heap.get? T = some o)
    (l1 : s.heap.IsList a xs) (l2 : s.heap.IsList b ys) (ex : xs[i]? = some x) (ey : ys[i]? = some y)
    (go : ∀ h1 g, h1.objs.size = s.heap.objs.size + 1 → IsPair h1 s.heap.objs.size x y → ZSt h1 z TI TO i1 i2 a b (i + 1) (some (t.getD s.heap.objs.size)) → (∀ c o, c ∉ [z, TI, TO, i1, i2] → s.heap.get? c = some o → h1.get? c = some o) → (∀ c o, c ≠ e → h1.get? c = some o → g.get? c = some o) →
      IsEnumOut g e z ((i : Int) + 1) (.ref s.heap.objs.size) (s.heap.objs.size + 1) → g.get? (s.heap.objs.size + 1) = some { cls := .type "tuple", data := .seq #[.int i s.toks, .ref s.heap.objs.size] } → Q (.ref (s.heap.objs.size + 1)) { s with heap := g, toks := s.toks + 1 }) :
    wpAny (model prog w) A (Builtin.«enumerate.__next__» ⟨[.ref e], []⟩) (fun fin s' => ∃ v, fin = .done (.ret v) ∧ Q v s') E s := by
  obtain ⟨hp, gs, dr, tk, os⟩ := s
  show wpAny _ _ (field (.ref e) 2 >>= _) _ _ _
  refine wpAny_bind (wpAny_field he rfl (x := .ref z) rfl (wpAny_bind (q.draw D al l1 l2 ex ey fun h1 n1 q1 p1 k1 => ?_)))
  have hez : e ≠ z := fun y => ne (by simp [y])
  have b1 : IsEnum h1 e z ((i : Nat) : Int) old := k1 e _ ne he
  have el : e < hp.objs.size := Heap.lt_size he
  show wpAny _ _ (field (.ref e) 3 >>= _) _ _ ⟨h1, gs, dr, tk, os⟩
  refine wpAny_bind (wpAny_field b1 rfl (x := rawInt i) rfl ?_)
  show wpAny _ _ (field (.ref e) 4 >>= _) _ _ ⟨h1, gs, dr, tk, os⟩
  refine wpAny_bind (wpAny_field b1 rfl (x := .none) rfl ?_)
  show wpAny _ _ (mkInt i >>= _) _ _ ⟨h1, gs, dr, tk, os⟩
  refine wpAny_bind (wpAny_mkInt ?_)
  show wpAny _ _ (setField (.ref e) 3 (rawInt ((i : Int) + 1)) >>= _) _ _ ⟨h1, gs, dr, tk + 1, os⟩
  refine wpAny_bind (wpAny_setField_rec b1 (by simp) fun h2 b2 m2 => ?_)
  have m2 : Heap.SameBut e h1 h2 := m2
  have b2 : IsEnum h2 e z ((i : Int) + 1) old := b2
  show wpAny _ _ (setField (.ref e) 4 .none >>= _) _ _ ⟨h2, gs, dr, tk + 1, os⟩
  refine wpAny_bind (wpAny_setField_rec b2 (by simp) fun h3 b3 m3 => ?_)
  have m3 : Heap.SameBut e h2 h3 := m3
  have b3 : IsEnum h3 e z ((i : Int) + 1) old := b3
  have n3 : h3.objs.size = hp.objs.size + 1 := by rw [m3.1, m2.1]; exact n1
  show wpAny _ _ (newTuple [.int i tk, .ref hp.objs.size] >>= _) _ _ ⟨h3, gs, dr, tk + 1, os⟩
  refine wpAny_bind (wpAny_newTuple ?_)
  obtain ⟨h4, e4⟩ : ∃ h4, h4 = h3.push { cls := .type "tuple", data := .seq #[.int i tk, .ref hp.objs.size] } := ⟨_, rfl⟩
  have b4 : IsEnum h4 e z ((i : Int) + 1) old := by rw [e4]; exact Heap.get?_push_of_some _ b3
  have t4 : h4.get? (hp.objs.size + 1) = some { cls := .type "tuple", data := .seq #[.int i tk, .ref hp.objs.size] } := by rw [e4, ← n3]; exact Heap.get?_push_size _ rfl
  have k4 : ∀ c o, c ≠ e → h1.get? c = some o → h4.get? c = some o := fun c o hc ho => by
    rw [e4]
    exact Heap.get?_push_of_some _ (m3.extBut c o hc (m2.extBut c o hc ho))
  have e4' : h3.push { cls := .type "tuple", data := .seq (List.toArray [.int i tk, .ref hp.objs.size]) } = h4 := e4.symm
  show wpAny _ _ (Builtin.SmallTypes.ownedTupleIsFree (.ref e) >>= _) _ _ ⟨h3.push { cls := .type "tuple", data := .seq (List.toArray [.int i tk, .ref hp.objs.size]) }, gs, dr, tk + 1, os⟩
  rw [e4', n3]
  refine wpAny_bind ?_
  delta Builtin.SmallTypes.ownedTupleIsFree
  refine wpAny_bind (wpAny_field b4 rfl (x := .none) rfl (wpAny_pure ?_))
  simp only [if_true]
  refine wpAny_bind (wpAny_rule (wpAny_bind (wpAny_field b4 rfl (x := old) rfl ?_)))
  refine wpAny_bind (wpAny_setField_rec b4 (by simp) fun h5 b5 m5 => ?_)
  have m5 : Heap.SameBut e h4 h5 := m5
  have b5 : IsEnum h5 e z ((i : Int) + 1) (.ref hp.objs.size) := b5
  show wpAny _ _ (Builtin.SmallTypes.ownedTupleHandOut (.ref e) (.ref (hp.objs.size + 1)) >>= _) _ _ ⟨h5, gs, dr, tk + 1, os⟩
  refine wpAny_bind ?_
  delta Builtin.SmallTypes.ownedTupleHandOut
  refine wpAny_bind (wpAny_setField_rec b5 (by simp) fun h6 b6 m6 => ?_)
  have m6 : Heap.SameBut e h5 h6 := m6
  have b6 : IsEnumOut h6 e z ((i : Int) + 1) (.ref hp.objs.size) (hp.objs.size + 1) := b6
  refine wpAny_setField_rec b6 (by simp) fun h7 b7 m7 => ?_
  have m7 : Heap.SameBut e h6 h7 := m7
  have b7 : IsEnumOut h7 e z ((i : Int) + 1) (.ref hp.objs.size) (hp.objs.size + 1) := b7
  have k7 : ∀ c o, c ≠ e → h4.get? c = some o → h7.get? c = some o := fun c o hc ho => m7.extBut c o hc (m6.extBut c o hc (m5.extBut c o hc ho))
  exact wpAny_bind (wpAny_letGo (wpAny_pure ⟨_, rfl, go h1 h7 n1 p1 q1 k1 (fun c o hc ho => k7 c o hc (k4 c o hc ho)) b7 (k7 _ _ (fun y => absurd el (by rw [← y]; exact Nat.not_lt_of_ge (Nat.le_succ _))) t4)⟩))
theorem meets_enumZ (z : Addr) : Meets (Builtin.«enumerate.__new__» ⟨[.type "enumerate", .ref z], []⟩) (fun _ R s => (∃ TI TO f0, IsZip s.heap z TI TO f0) ∧ R (.ok (.ret (.ref s.heap.objs.size))) { s with heap := s.heap.push { cls := .type "enumerate", data := .fields #[.none, .bool false, .ref z, rawInt 0, .none, .none] } }) :=
  .of_wp fun prog w A R s h => by
    obtain ⟨hp, gs, dr, tk, os⟩ := s
    obtain ⟨⟨TI, TO, f0, hz⟩, hR⟩ := h
    have hsub := sub_enumerate
    have hZ : IsZip (Shared.heap ⟨hp, gs, dr, tk, os⟩) z TI TO f0 := hz
    wp_walk using wpAny_pyIter_zip hZ
    refine wpAny_stack_any fun st => wpAny_pure ?_
    split
    · rename_i c _ _ _ _ _
      cases (c == Value.type "enumerate") <;> (wp_walk using wpAny_pyIter_zip hZ; exact ⟨_, rfl, hR⟩)
    · wp_walk using wpAny_pyIter_zip hZ
      exact ⟨_, rfl, hR⟩
theorem call_enumZ {f0 : Value} {Q : Value → Shared → Prop} (hz : IsZip s.heap z TI TO f0) (h : ∀ g, IsEnum g s.heap.objs.size z 0 .none → (∀ c o, s.heap.get? c = some o → g.get? c = some o) → Q (.ref s.heap.objs.size) { s with heap := g }) :
    wpAny (model prog w) A (call (.type "enumerate") [.ref z]) Q E s := by
  refine callType_new F.called_enumerate (by decide) (F.typeCall_enumerate_1 _) (F.newCall_enumerate_1 _) (fun obj => F.args_object_init_2 obj _) F.entry_enumerate_new (meets_enumZ z) ⟨⟨TI, TO, f0, hz⟩, ?_⟩
  have he : IsEnum (s.heap.push { cls := .type "enumerate", data := .fields #[.none, .bool false, .ref z, rawInt 0, .none, .none] }) s.heap.objs.size z 0 .none := Heap.get?_push_size _ rfl
  exact ⟨⟨_, he, rfl⟩, h _ he fun c o ho => Heap.get?_push_of_some _ ho⟩
end
end
section
open PyProof PyProof.Rows PySem.Calls PySem.Spec PySem.W
variable {z TI TO i1 i2 a b e : Addr} {X : Cx} {pins : List (Addr × Obj)} {σ : L2.St} {H : Hp} {s : Shared} {xs ys : List V} {i : Nat} {t : Option Addr} {E : Value → Shared → Prop}
def ez5 (H : Hp) (U T : Addr) (i : Nat) (x y : V) : Hp := upd (upd H U (.tup [x, y])) T (.tup [.int (i : Nat), .ref U])
theorem ez_alive (I : Inv X pins σ H s) (al : ∀ T, t = some T → ∃ u v, H T = some (.tup [u, v])) : ∀ T, t = some T → ∃ o, s.heap.get? T = some o := fun T eT => by
  obtain ⟨u, v, e1⟩ := al T eT
  obtain ⟨_, _, _, o, e2, _⟩ := I.hok T _ e1
  exact ⟨o, e2⟩
theorem ez_item {x y : V} {old : Value} {elts : List Expr} {kk : Nat} {tpos : Pos} (I : Inv X pins σ H s) (D : ZipApart z TI TO i1 i2 a b) (ne : e ∉ [z, TI, TO, i1, i2]) (fp : ∀ c ∈ [e, z, TI, TO, i1, i2], FpOk X pins H c) (he : IsEnum s.heap e z ((i : Nat) : Int) old) (q : ZSt s.heap z TI TO i1 i2 a b i t) (al : ∀ T, t = some T → ∃ u v, H T = some (.tup [u, v]))
    (hx : SqL X.K H a xs) (hy : SqL X.K H b ys) (ex : xs[i]? = some x) (ey : ys[i]? = some y) :
    wpAny (model X.prog X.w) X.A (pyNext (.ref e)) (fun r s1 => ∃ u, r = some u ∧ wpAny (model X.prog X.w) X.A (letOwnedTupleGo (.Tuple elts kk tpos) (.ref e) u) (fun _ s2 => ∃ U T, Fr H U ∧ Fr H T ∧ U ≠ T ∧ u = .ref T ∧ Inv X pins σ (ez5 H U T i x y) s2 ∧ (∃ o, IsEnum s2.heap e z ((i + 1 : Nat) : Int) o) ∧ (∃ t', ZSt s2.heap z TI TO i1 i2 a b (i + 1) (some t') ∧ (t' = U ∨ t = some t')) ∧ ∀ c ∈ [e, z, TI, TO, i1, i2], ez5 H U T i x y c = none) E s1) E s := by
  obtain ⟨ia, va, la, za⟩ := I.list hx
  obtain ⟨ib, vb, lb, zb⟩ := I.list hy
  obtain ⟨u, hu, ru⟩ := va.get ex
  obtain ⟨v, hv, rv⟩ := vb.get ey
  have ty : s.TypeIs (.ref e) "enumerate" := ⟨_, he, rfl⟩
  have el : e < s.heap.objs.size := Heap.lt_size he
  delta pyNext
  refine wpAny_bind (wpAny_attempt (wpAny_callSpecial?_slot (name := Str.ofString "__next__") ty F.slot_enumerate_next (wpAny_call_entry F.slot_enumerate_next ty F.entry_enumerate_next (ez_next D ne he q (ez_alive I al) la.isList lb.isList (x := u) (y := v) (by simpa using hu) (by simpa using hv) fun h1 g n1 p1 q1 k1 k2 out tup => wpAny_pure ⟨_, rfl, wpAny_letOwnedTupleGo_enum out fun g2 he2 sb => ?_⟩) (F.args_enumerate_next_1 _))))
  have sb : Heap.SameBut e g g2 := sb
  have kg : ∀ c o, c ≠ e → h1.get? c = some o → g2.get? c = some o := fun c o hc ho => (sb.2 c hc).trans (k2 c o hc ho)
  have fU : H s.heap.objs.size = none := I.hok.fresh (Nat.le_refl _)
  have fT : H (s.heap.objs.size + 1) = none := I.hok.fresh (Nat.le_succ _)
  have eU : e ≠ s.heap.objs.size := Nat.ne_of_lt el
  have eT : s.heap.objs.size + 1 ≠ e := fun y => absurd el (by rw [← y]; exact Nat.not_lt_of_ge (Nat.le_succ _))
  have I1 : Inv X pins σ (upd H s.heap.objs.size (.tup [x, y])) { s with heap := h1 } := I.turnedNew (t' := s.toks) (ch := [z, TI, TO, i1, i2]) k1 (fun c hc => fp c (List.mem_cons_of_mem _ hc)) (Nat.le_refl _) ⟨by show 2 ≤ sizeLine; decide, [u, v], .cons ru (.cons rv .nil), ⟨_, p1, rfl, _, rfl⟩⟩
  have tup2 := (sb.2 _ eT).trans tup
  have I2 : Inv X pins σ (ez5 H s.heap.objs.size (s.heap.objs.size + 1) i x y) { s with heap := g2, toks := s.toks + 1 } := I1.turnedNew (t' := s.toks + 1) (h' := g2) (ch := [e]) (fun c o hc ho => kg c o (fun y => hc (by simp [y])) ho) (fun c hc => by
    rw [List.mem_singleton.mp hc]
    exact ⟨by rw [upd_ne eU]; exact (fp e List.mem_cons_self).1, (fp e List.mem_cons_self).2⟩) (by show h1.objs.size ≤ _; rw [n1]; exact Nat.le_refl _) ⟨by show 2 ≤ sizeLine; decide, [.int i s.toks, .ref s.heap.objs.size], .cons ⟨_, rfl⟩ (.cons rfl .nil), ⟨_, tup2, rfl, _, rfl⟩⟩
  refine ⟨s.heap.objs.size, s.heap.objs.size + 1, ⟨fU⟩, ⟨fT⟩, Nat.ne_of_lt (Nat.lt_succ_self _), rfl, I2, ⟨.ref s.heap.objs.size, ?_⟩, ⟨_, q1.by fun c hc o ho => kg c o (fun y => ne (by rw [← y]; exact hc)) ho, ?_⟩, fun c hc => ?_⟩
  · have e1 : ((i + 1 : Nat) : Int) = (i : Int) + 1 := Int.natCast_succ i
    rw [e1]
    exact he2
  · cases t with
    | none => exact .inl rfl
    | some T => exact .inr rfl
  · have lt : c < s.heap.objs.size := by
      rcases List.mem_cons.mp hc with y | y
      · rw [y]
        exact el
      · obtain ⟨o, ho, _⟩ := q.there c y
        exact Heap.lt_size ho
    unfold ez5
    rw [upd_ne (Nat.ne_of_lt (Nat.lt_succ_of_lt lt)), upd_ne (Nat.ne_of_lt lt)]
    exact (fp c hc).1
theorem ez_stop {old : Value} {Q : Option Value → Shared → Prop} (hh : X.A.handled = none) (I : Inv X pins σ H s) (D : ZipApart z TI TO i1 i2 a b) (fp : ∀ c ∈ [e, z, TI, TO, i1, i2], FpOk X pins H c) (he : IsEnum s.heap e z ((i : Nat) : Int) old) (q : ZSt s.heap z TI TO i1 i2 a b i t) (al : ∀ T, t = some T → ∃ u v, H T = some (.tup [u, v]))
    (hx : SqL X.K H a xs) (hy : SqL X.K H b ys) (en : xs.length ≤ i ∨ ys.length ≤ i) (go : ∀ g, Inv X pins σ H { s with heap := g } → Q none { s with heap := g }) : wpAny (model X.prog X.w) X.A (pyNext (.ref e)) Q E s := by
  obtain ⟨ia, va, la, za⟩ := I.list hx
  obtain ⟨ib, vb, lb, zb⟩ := I.list hy
  have na := va.length
  have nb := vb.length
  have ty : s.TypeIs (.ref e) "enumerate" := ⟨_, he, rfl⟩
  have en2 : ia.toArray[i]? = none ∨ ib.toArray[i]? = none := by
    rcases en with y | y
    · exact .inl (by simp; omega)
    · exact .inr (by simp; omega)
  delta pyNext
  refine wpAny_bind (wpAny_attempt (wpAny_callSpecial?_slot (name := Str.ofString "__next__") ty F.slot_enumerate_next (wpAny_call_entry F.slot_enumerate_next ty F.entry_enumerate_next ?_ (F.args_enumerate_next_1 _))))
  show wpAny _ _ (field (.ref e) 2 >>= _) _ _ _
  refine wpAny_bind (wpAny_field he rfl (x := .ref z) rfl (wpAny_bind (q.last hh D (ez_alive I al) la.isList lb.isList en2 fun g x k hs => ?_)))
  obtain ⟨ob, hob, hcl⟩ := hs
  exact wpAny_bind (wpAny_isInstance (T := "StopIteration") (b := true) ⟨ob, hob, hcl⟩ isSubtype_stop (wpAny_pure (go g (I.turnedL (t' := s.toks) k fun c hc => fp c (List.mem_cons_of_mem _ hc)))))
def ForEZ (K : PySem.W.Frag) (vs : List V) (g : TG) (tb : TS) (D : Ends) (σ : L2.St) (H1 : Hp) : Prop := ∃ (a b : Addr) (xs ys : List V), vs = [.ref a, .ref b] ∧ SqL K H1 a xs ∧ SqL K H1 b ys ∧ ∃ Pv : Nat → L2.St → Hp → Prop, Pv 0 σ H1 ∧ (∀ i σ H, Pv i σ H → SqL K H a xs ∧ SqL K H b ys) ∧
  (∀ i x y U T σ H, xs[i]? = some x → ys[i]? = some y → Pv i σ H → Fr H U → Fr H T → U ≠ T → g (.ref T) σ (ez5 H U T i x y) fun σ2 H2 => tb { D with nx := fun σ' H' => Fx (ez5 H U T i x y) H' ∧ Pv (i + 1) σ' H', ct := fun σ' H' => Fx (ez5 H U T i x y) H' ∧ Pv (i + 1) σ' H', bk := D.nx } σ2 H2) ∧
  ∀ σ H, Pv (min xs.length ys.length) σ H → D.nx σ H
def tForEZ (K : PySem.W.Frag) (ta : TA) (g : TG) (tb : TS) : TS := fun D σ H => ta σ H fun vs H1 => ForEZ K vs g tb D σ H1
theorem i_forEZ {K : PySem.W.Frag} {ta : TA} {g : TG} {tb : TS} {D : Ends} (h : ta σ H fun vs H1 => ForEZ K vs g tb D σ H1) : tForEZ K ta g tb D σ H := h
theorem ps_forEZ {K : PySem.W.Frag} {e1 e2 : Expr} {ta : TA} {g : TG} {tb : TS} {body : List Stmt} {elts : List Expr} {kk : Nat} {p p2 pos pos2 pos3 tpos : Pos} (hK : X.K = K) (hp : PassesOwn (model X.prog X.w) X.A X.env X.xe) (calm : X.calm = true) (hg : Gl X "enumerate") (hm : X.mg "enumerate" = none) (hg2 : Gl X "zip") (hm2 : X.mg "zip" = none)
    (ha : PA X [e1, e2] ta) (hgt : PG X (.Tuple elts kk tpos) g) (hb : PSs X body tb)
    (hs : ∀ x, foldedSetIterable (.Call (.Name "enumerate" p) [.Call (.Name "zip" p2) [e1, e2] [] pos2] [] pos3) X.env x = pure x := by intro _; rfl)
    (hs2 : starEach [e1, e2] X.env = (false, eval e1 X.env) :: starEach [e2] X.env := by rfl) (hpl : (backTo pos2 (starEach [e2] X.env)).any (·.1) = false := by rfl)
    (one : starEach [Expr.Call (.Name "zip" p2) [e1, e2] [] pos2] X.env = (false, eval (Expr.Call (.Name "zip" p2) [e1, e2] [] pos2) X.env) :: starEach [] X.env := by rfl) :
    PS X (.For (.Tuple elts kk tpos) (.Call (.Name "enumerate" p) [.Call (.Name "zip" p2) [e1, e2] [] pos2] [] pos3) body [] pos) (tForEZ K ta g tb) := by
  subst hK
  refine ⟨fun pins s σ H D I h => ?_⟩
  refine wpAny_For ?_ hs
  refine Call_ (ld_blt I hg hm boot_enumerate (PyProof.Rows.callWith_type1 (PyProof.Rows.args_cons ?_ one) one rfl))
  refine Call_ (ld_blt I hg2 hm2 PyProof.Rows.boot_zip (PyProof.Rows.callWith_type1 (thn (ha.run pos2 pins s σ H _ I h) fun us s1 w => ?_) hs2 hpl))
  obtain ⟨vs, H1, I1, r1, a, b, xs, ys, ev, ea, eb, Pv, p0, pl, pst, pd⟩ := w
  subst ev
  obtain ⟨u1, u2, rfl, r2, r3⟩ := vals2 r1
  obtain rfl : u1 = Value.ref a := r2
  obtain rfl : u2 = Value.ref b := r3
  obtain ⟨ia, va, la, za⟩ := I1.list ea
  obtain ⟨ib, vb, lb, zb⟩ := I1.list eb
  refine call_zip_2 la.isList lb.isList fun g0 w1 w2 w3 w4 w5 w6 kg => PyProof.Rows.args_nil ?_
  refine call_enumZ w1 fun g1 he0 k1 => wpAny_pyIter_enum he0 ?_
  have I2 : Inv X pins σ H1 { s1 with heap := g1 } := I1.kept (t' := s1.toks) fun c o y => k1 c o (kg c o y)
  have q0 : ZSt g1 (s1.heap.objs.size + 4) (s1.heap.objs.size + 2) (s1.heap.objs.size + 3) s1.heap.objs.size (s1.heap.objs.size + 1) a b 0 none :=
    ZSt.by (h := g0) ⟨⟨w2, w4, w5⟩, w1, _, _, w3⟩ fun c _ o => k1 c o
  have he0 : IsEnum g1 g0.objs.size (s1.heap.objs.size + 4) 0 .none := he0
  have ap := PySem.W.ktu_apart s1.heap.objs.size a b la.lt lb.lt
  have eg : g0.objs.size = s1.heap.objs.size + 5 := w6
  have ge : ∀ c ∈ [g0.objs.size, s1.heap.objs.size + 4, s1.heap.objs.size + 2, s1.heap.objs.size + 3, s1.heap.objs.size, s1.heap.objs.size + 1], s1.heap.objs.size ≤ c := fun c hc => by
    simp only [List.mem_cons, List.not_mem_nil, or_false] at hc
    rcases hc with rfl | rfl | rfl | rfl | rfl | rfl
    · rw [eg]
      exact Nat.le_add_right _ _
    · exact Nat.le_add_right _ _
    · exact Nat.le_add_right _ _
    · exact Nat.le_add_right _ _
    · exact Nat.le_refl _
    · exact Nat.le_add_right _ _
  have ne : g0.objs.size ∉ [s1.heap.objs.size + 4, s1.heap.objs.size + 2, s1.heap.objs.size + 3, s1.heap.objs.size, s1.heap.objs.size + 1] := fun hc => by
    have lt : ∀ c ∈ [s1.heap.objs.size + 4, s1.heap.objs.size + 2, s1.heap.objs.size + 3, s1.heap.objs.size, s1.heap.objs.size + 1], c < s1.heap.objs.size + 5 := fun c hc => by
      simp only [List.mem_cons, List.not_mem_nil, or_false] at hc
      rcases hc with rfl | rfl | rfl | rfl | rfl
      · exact Nat.lt_succ_self _
      · exact Nat.add_lt_add_left (by decide) _
      · exact Nat.add_lt_add_left (by decide) _
      · exact Nat.lt_add_of_pos_right (by decide)
      · exact Nat.add_lt_add_left (by decide) _
    have := lt _ hc
    rw [eg] at this
    exact Nat.lt_irrefl _ this
  have fp0 : ∀ c ∈ [g0.objs.size, s1.heap.objs.size + 4, s1.heap.objs.size + 2, s1.heap.objs.size + 3, s1.heap.objs.size, s1.heap.objs.size + 1], FpOk X pins H1 c := fun c hc => I1.fpOk (ge c hc) (I1.hok.fresh (ge c hc))
  have fpk : ∀ {H' : Hp}, (∀ c ∈ [g0.objs.size, s1.heap.objs.size + 4, s1.heap.objs.size + 2, s1.heap.objs.size + 3, s1.heap.objs.size, s1.heap.objs.size + 1], H' c = none) → ∀ c ∈ [g0.objs.size, s1.heap.objs.size + 4, s1.heap.objs.size + 2, s1.heap.objs.size + 3, s1.heap.objs.size, s1.heap.objs.size + 1], FpOk X pins H' c := fun hn c hc => ⟨hn c hc, (fp0 c hc).2⟩
  generalize g0.objs.size = e at he0 ne fp0 fpk
  generalize s1.heap.objs.size + 4 = z at q0 ap he0 ne fp0 fpk
  generalize s1.heap.objs.size + 2 = TI at q0 ap ne fp0 fpk
  generalize s1.heap.objs.size + 3 = TO at q0 ap ne fp0 fpk
  generalize s1.heap.objs.size + 1 = i2 at q0 ap ne fp0 fpk
  generalize s1.heap.objs.size = i1 at q0 ap ne fp0 fpk
  refine codeAny_forLoop_any (fun n s' => ∃ i σ' H', n = min xs.length ys.length - i ∧ i ≤ min xs.length ys.length ∧ Inv X pins σ' H' s' ∧ (∃ o, IsEnum s'.heap e z ((i : Nat) : Int) o) ∧ (∃ t, ZSt s'.heap z TI TO i1 i2 a b i t ∧ ∀ T, t = some T → ∃ u v, H' T = some (.tup [u, v])) ∧ (∀ c ∈ [e, z, TI, TO, i1, i2], H' c = none) ∧ Pv i σ' H') ?_ (min xs.length ys.length)
    ⟨0, σ, H1, rfl, Nat.zero_le _, I2, ⟨_, he0⟩, ⟨none, q0, fun T y => nomatch y⟩, fun c hc => (fp0 c hc).1, p0⟩
  rintro n s3 ⟨i, σ3, H3, rfl, hi, I3, ⟨old, he⟩, ⟨t, q, al⟩, fr, pv⟩
  obtain ⟨hx, hy⟩ := pl i σ3 H3 pv
  by_cases c : i < min xs.length ys.length
  · have c1 : i < xs.length := by omega
    have c2 : i < ys.length := by omega
    refine wpAny_passesOwn hp (thn (ez_item (elts := elts) (kk := kk) (tpos := tpos) I3 ap ne (fpk fr) he q al hx hy (List.getElem?_eq_getElem c1) (List.getElem?_eq_getElem c2)) fun r s4 ⟨u, er, h4⟩ => ?_)
    subst er
    refine wpAny_passesOwn hp (thn h4 fun _ s5 ⟨U, T, fU, fT, nUT, eu, I5, he5, ⟨t5, q5, d5⟩, fr5⟩ => ?_)
    subst eu
    obtain ⟨o5, he5⟩ := he5
    have step := pst i _ _ U T σ3 H3 (List.getElem?_eq_getElem c1) (List.getElem?_eq_getElem c2) pv fU fT nUT
    have ob : ∀ c ∈ [e, z, TI, TO, i1, i2], ∃ o, s5.heap.get? c = some o ∧ ∀ v, o.data ≠ .cell v := fun c hc => by
      rcases List.mem_cons.mp hc with y | y
      · rw [y]
        exact ⟨_, he5, fun v y => nomatch y⟩
      · exact q5.there c y
    have J5 := I5.pinned (fpk fr5) ob
    have tr5 : ∃ u v, ez5 H3 U T i xs[i] ys[i] t5 = some (.tup [u, v]) := by
      unfold ez5
      rcases d5 with y | y
      · rw [y, upd_ne nUT, upd_same]
        exact ⟨_, _, rfl⟩
      · obtain ⟨u, v, e1⟩ := al t5 y
        have n1 : t5 ≠ U := fun w => by rw [w, fU.e] at e1; cases e1
        have n2 : t5 ≠ T := fun w => by rw [w, fT.e] at e1; cases e1
        rw [upd_ne n2, upd_ne n1]
        exact ⟨u, v, e1⟩
    refine wpAny_passesOwn hp (thn (hgt.run _ s5 σ3 _ (.ref T) (.ref T) _ J5 rfl step) fun _ s6 ⟨σ6, H6, J6, w6⟩ => ?_)
    refine wpAny_passesOwn hp (thn (hb.run _ s6 σ6 H6 _ J6 w6) fun f s7 w7 => ?_)
    have next : ∀ {σ7 : L2.St} {H7 : Hp}, Inv X (pins ++ pinsAt [e, z, TI, TO, i1, i2] s5.heap) σ7 H7 s7 → Fx (ez5 H3 U T i xs[i] ys[i]) H7 → Pv (i + 1) σ7 H7 → ∃ m, m < min xs.length ys.length - i ∧ ∃ i' σ' H', m = min xs.length ys.length - i' ∧ i' ≤ min xs.length ys.length ∧ Inv X pins σ' H' s7 ∧ (∃ o, IsEnum s7.heap e z ((i' : Nat) : Int) o) ∧ (∃ t, ZSt s7.heap z TI TO i1 i2 a b i' t ∧ ∀ T, t = some T → ∃ u v, H' T = some (.tup [u, v])) ∧ (∀ c ∈ [e, z, TI, TO, i1, i2], H' c = none) ∧ Pv i' σ' H' := fun {σ7 H7} J7 fx7 p7 => by
      have same : ∀ c ∈ [e, z, TI, TO, i1, i2], ∀ o, s5.heap.get? c = some o → s7.heap.get? c = some o ∧ H7 c = none := fun c hc o ho => by
        have w := J7.pin (c, o) (List.mem_append_right _ (List.mem_append_right _ (mem_pinsAt hc ho)))
        exact ⟨w.1, w.2.1⟩
      refine ⟨_, by omega, i + 1, σ7, H7, rfl, c, J7.unpinned, ⟨_, (same e List.mem_cons_self _ he5).1⟩, ⟨some t5, q5.by fun c hc o ho => (same c (List.mem_cons_of_mem _ hc) o ho).1, fun T' y => ?_⟩, fun c hc => ?_, p7⟩
      · injection y with y
        obtain ⟨u, v, e1⟩ := tr5
        exact ⟨u, v, by rw [← y]; exact fx7.fx _ _ e1 trivial⟩
      · obtain ⟨o, ho, _⟩ := ob c hc
        exact (same c hc o ho).2
    match f, w7 with
    | .next, w7 => obtain ⟨σ7, H7, J7, a7, b7⟩ := w7; exact next J7 a7 b7
    | .cont, w7 => obtain ⟨σ7, H7, J7, a7, b7⟩ := w7; exact next J7 a7 b7
    | .brk, w7 => obtain ⟨σ7, H7, J7, a7⟩ := w7; exact ⟨σ7, H7, J7.unpinned, a7⟩
    | .ret v, w7 => obtain ⟨x7, σ7, H7, J7, r7, a7⟩ := w7; exact ⟨x7, σ7, H7, J7.unpinned, r7, a7⟩
  · have ei : i = min xs.length ys.length := by omega
    refine wpAny_passesOwn hp (ez_stop (I3.ok.hd calm) I3 ap (fpk fr) he q al hx hy (by omega) fun g J => wpAny_execs_nil ⟨σ3, H3, J, pd σ3 H3 (by rw [← ei]; exact pv)⟩)
end

/-! ### more comprehensions and loops over a dict's values and pairs -/
section
variable {K : PySem.W.Frag} {σ : L2.St} {H H1 : Hp} {Q : VK} {d : Addr} {g g1 : TG} {tt tt1 : TT} {te td te1 : TE} {vs vs1 : List Nat} {o : Obj} {kvs : List (Key × V)} {D : Ends} {tb : TS}
def Lc2V (x : V) (g : TG) (tt : TT) (wi1 : TI) (g1 : TG) (tt1 : TT) (te : TE) (vs vs1 : List Nat) (σ : L2.St) (H1 : Hp) (Q : VK) : Prop := ∃ d o kvs, x = .ref d ∧ H1 d = some (.frz o (.dK kvs)) ∧
  ∀ D, H1 D = none → ∃ W : Nat → Nat → Hp → Prop, (∃ m, W 0 m (upd H1 D (.lst []))) ∧ ∀ i m H, W i m H →
  ((Itd d o kvs).stop i H ∧ Q (.ref D) H) ∨ ((Itd d o kvs).go i H ∧ ∃ Nx : Hp → Prop, (∀ H', Nx H' → ∃ m', m' < m ∧ W (i + 1) m' H') ∧ ∀ x H', (Itd d o kvs).yld i H x H' → g x (wipe σ vs) H' fun σ2 H2 => wipe σ2 vs = wipe σ vs ∧ tt σ2 H2 fun b H3 =>
    if b = true then wi1 σ2 H3 fun J1 H4 => In2 J1 g1 tt1 te vs1 σ2 D Nx H4 else Nx H3)
theorem i_lc2V {wi1 : TI} (h : td σ H fun x H1 => Lc2V x g tt wi1 g1 tt1 te vs vs1 σ H1 Q) : tLc2 (iVals td) g tt wi1 g1 tt1 te vs vs1 σ H Q := h
theorem i_valG2 {wi1 : TI} (hd : H d = some (.frz o (.dK kvs))) (Pv : Addr → Nat → Hp → Prop)
    (h0 : ∀ R, Fr H R → Pv R 0 (upd H R (.lst [])))
    (hl : ∀ R i H', Fr H R → Pv R i H' → H' d = some (.frz o (.dK kvs)))
    (st : ∀ R i k v H', Fr H R → kvs[i]? = some (k, v) → Pv R i H' → g v (wipe σ vs) H' fun σ2 H2 =>
      wipe σ2 vs = wipe σ vs ∧ tt σ2 H2 fun b H3 => if b = true then wi1 σ2 H3 fun J1 H4 => In2 J1 g1 tt1 te vs1 σ2 R (Pv R (i + 1)) H4 else Pv R (i + 1) H3)
    (hdn : ∀ R H', Fr H R → Pv R kvs.length H' → Q (.ref R) H') : Lc2V (.ref d) g tt wi1 g1 tt1 te vs vs1 σ H Q := by
  refine ⟨d, o, kvs, rfl, hd, fun R hR => ⟨fun i m H' => m = kvs.length - i ∧ i ≤ kvs.length ∧ Pv R i H', ⟨_, rfl, Nat.zero_le _, h0 R ⟨hR⟩⟩, ?_⟩⟩
  rintro i m H' ⟨rfl, hi, z⟩
  have q := hl R i H' ⟨hR⟩ z
  by_cases c : i < kvs.length
  · refine .inr ⟨⟨q, c⟩, Pv R (i + 1), fun H2 w => ⟨_, by omega, rfl, c, w⟩, ?_⟩
    rintro x H2 ⟨rfl, k, e⟩
    exact st R i k x _ ⟨hR⟩ e z
  · have e : i = kvs.length := by omega
    exact .inl ⟨⟨q, by omega⟩, hdn R H' ⟨hR⟩ (by rw [← e]; exact z)⟩
def DcIt (x : V) (g : TG) (tt : TT) (tk tv : TE) (vs : List Nat) (σ : L2.St) (H1 : Hp) (Q : VK) : Prop := ∃ d o kvs, x = .ref d ∧ H1 d = some (.frz o (.dK kvs)) ∧ DcB (Iti d o kvs) g tt tk tv vs σ H1 Q
theorem i_dcIt {tk tv : TE} (h : td σ H fun x H1 => DcIt x g tt tk tv vs σ H1 Q) : tDc (iItems td) g tt tk tv vs σ H Q := h
theorem i_dpairG {tk tv : TE} (hd : H d = some (.frz o (.dK kvs))) (Pv : Addr → Nat → Hp → Prop)
    (h0 : ∀ R, Fr H R → Pv R 0 (upd H R (.dK [])))
    (hl : ∀ R i H', Fr H R → Pv R i H' → H' d = some (.frz o (.dK kvs)))
    (st : ∀ R i k v T H', Fr H R → kvs[i]? = some (k, v) → Pv R i H' → Fr H' T → g (.ref T) (wipe σ vs) (upd H' T (.tup [kV k, v])) fun σ2 H2 =>
      wipe σ2 vs = wipe σ vs ∧ tt σ2 H2 fun b H3 => if b = true then tk σ2 H3 fun y H4 => tv σ2 H4 fun z H5 => ∃ kvs k, y = kV k ∧ H5 R = some (.dK kvs) ∧ kvs.length < sizeLine ∧ Pv R (i + 1) (upd H5 R (.dK (putK kvs k z))) else Pv R (i + 1) H3)
    (hdn : ∀ R H', Fr H R → Pv R kvs.length H' → Q (.ref R) H') : DcIt (.ref d) g tt tk tv vs σ H Q := by
  refine ⟨d, o, kvs, rfl, hd, fun R hR => ⟨fun i m H' => m = kvs.length - i ∧ i ≤ kvs.length ∧ Pv R i H', ⟨_, rfl, Nat.zero_le _, h0 R ⟨hR⟩⟩, ?_⟩⟩
  rintro i m H' ⟨rfl, hi, z⟩
  have q := hl R i H' ⟨hR⟩ z
  by_cases c : i < kvs.length
  · refine .inr ⟨⟨q, c⟩, Pv R (i + 1), fun H2 w => ⟨_, by omega, rfl, c, w⟩, ?_⟩
    rintro x H2 ⟨T, k, v, e, rfl, hT, rfl⟩
    exact st R i k v T _ ⟨hR⟩ e z ⟨hT⟩
  · have e : i = kvs.length := by omega
    exact .inl ⟨⟨q, by omega⟩, hdn R H' ⟨hR⟩ (by rw [← e]; exact z)⟩
def ForV (x : V) (g : TG) (tb : TS) (D : Ends) (σ : L2.St) (H1 : Hp) : Prop := ∃ d o kvs, x = .ref d ∧ H1 d = some (.frz o (.dK kvs)) ∧ ∃ W : Nat → Nat → L2.St → Hp → Prop, (∃ m, W 0 m σ H1) ∧ ∀ i m σ H, W i m σ H →
  ((Itd d o kvs).stop i H ∧ D.nx σ H) ∨ ((Itd d o kvs).go i H ∧ ∃ N : L2.St → Hp → Prop, (∀ σ' H', N σ' H' → ∃ m', m' < m ∧ W (i + 1) m' σ' H') ∧ ∀ x H', (Itd d o kvs).yld i H x H' → g x σ H' fun σ2 H2 => tb { D with nx := N, ct := N, bk := D.nx } σ2 H2)
theorem i_forV (h : td σ H fun x H1 => ForV x g tb D σ H1) : tFor (iVals td) g tb D σ H := h
theorem i_eachV (hd : H d = some (.frz o (.dK kvs))) (Pv : Nat → L2.St → Hp → Prop) (h0 : Pv 0 σ H) (hl : ∀ i σ H', Pv i σ H' → H' d = some (.frz o (.dK kvs)))
    (st : ∀ i k v σ H', kvs[i]? = some (k, v) → Pv i σ H' → g v σ H' fun σ2 H2 => tb { D with nx := Pv (i + 1), ct := Pv (i + 1), bk := D.nx } σ2 H2)
    (hdn : ∀ σ H', Pv kvs.length σ H' → D.nx σ H') : ForV (.ref d) g tb D σ H := by
  refine ⟨d, o, kvs, rfl, hd, fun i m σ H' => m = kvs.length - i ∧ i ≤ kvs.length ∧ Pv i σ H', ⟨_, rfl, Nat.zero_le _, h0⟩, ?_⟩
  rintro i m σ H' ⟨rfl, hi, z⟩
  have q := hl i σ H' z
  by_cases c : i < kvs.length
  · refine .inr ⟨⟨q, c⟩, Pv (i + 1), fun σ2 H2 w => ⟨_, by omega, rfl, c, w⟩, ?_⟩
    rintro x H2 ⟨rfl, k, e⟩
    exact st i k x σ _ e z
  · have e : i = kvs.length := by omega
    exact .inl ⟨⟨q, by omega⟩, hdn σ H' (by rw [← e]; exact z)⟩
end
--%%M
local macro_rules | `(tactic| walk_at "g_own") => `(tactic| first
  | (with_reducible refine i_lc2V ?_)
  | (with_reducible refine i_dcIt ?_)
  | (with_reducible refine i_forV ?_)
  | (with_reducible refine i_lcIt ?_)
  | (with_reducible refine i_forIt ?_)
  | (with_reducible refine i_forEZ ?_))
--%%E

/-! ### sorted(set), of any number of numbers -/
section
open PySem PySem.Spec PyProof PyProof.Rows PySem.Calls
def rSortSetI (w : World) : List V → Hp → VK → Prop := fun vs H Q => ∃ (a : Addr) (S : Int → Bool) (n : Nat), vs = [V.ref a] ∧ H a = some (L2.SetO w a S n) ∧ n ≤ 100000 ∧
  ∀ (ns : List Int) (p : Addr), ns.Pairwise (· < ·) → (∀ k : Int, k ∈ ns ↔ S k = true) → Fr H p → Q (.ref p) (upd H p (.lst (ns.map V.int)))
theorem ints_any : ∀ (vs : List Value), (∀ v ∈ vs, ∃ k t, v = .int k t) → ∃ ks : List Int, Vals (ks.map V.int) vs ∧ vs.map Builtin.Re.reRawOf = ks
  | [], _ => ⟨[], .nil, rfl⟩
  | v :: vs, h => by
    obtain ⟨k, t, rfl⟩ := h v List.mem_cons_self
    obtain ⟨ks, r, e⟩ := ints_any vs fun u hu => h u (List.mem_cons_of_mem _ hu)
    exact ⟨k :: ks, .cons ⟨t, rfl⟩ r, by rw [List.map_cons, e]; rfl⟩
theorem k_sortSetI {X : Cx} {w : World} (hw : X.w = w) (calm : X.calm = true) : CallR X (.builtin "sorted") (rSortSetI w) := by
  subst hw
  intro pins s σ H xs us Q I r q
  obtain ⟨a, S, n, rfl, ha, hn, q⟩ := q
  rw [Vals.ref1 r]
  have RS := L2.setO_get I ha
  obtain ⟨ob, ents, pl, ft, got, ext, dat, good, nodup, memb, bb, ff, cnt, rr, ll⟩ := RS
  refine call_function_entry kind_sorted plain_sorted entry_sorted (args_sorted1 _) ?_
  delta Builtin.«sorted»
  refine wpAny_bind (m := checkCount "sorted" 1 1 _) (wpAny_pure ?_)
  refine wpAny_bind (L2.collect_set (A := X.A.in1) (I.ok.hd calm) ⟨ob, got, ext.1, dat⟩ ff bb rr ll fun s2 vs k2 z2 g2 o2 pm => ?_)
  have lv : vs.length = n := by rw [pm.length_eq, List.length_map, Array.length_toList]; exact cnt
  obtain ⟨ks, rel, eks⟩ := ints_any vs fun v hv => by
    obtain ⟨e, he, ev⟩ := List.mem_map.mp (pm.mem_iff.mp hv)
    obtain ⟨k, tk, h1, _⟩ := good e he
    exact ⟨k, tk, by rw [← ev]; exact h1⟩
  have lk : ks.length = n := by rw [← lv, ← rel.length, List.length_map]
  have big : n ≤ sizeLine := Nat.le_trans hn (by decide)
  have pk : ks.Perm (ents.toList.map L2.keyOf) := by
    have z := pm.map Builtin.Re.reRawOf
    rw [List.map_map, eks] at z
    exact z
  refine wpAny_bind (wpAny_newList ?_ (by rw [lv]; exact big))
  have J := I.kept (t' := s2.toks) k2
  have I0 : Inv X pins σ H s2 := I.call' (ch := []) o2 (Un.kept k2) J.hok (by rw [g2]; exact I.bare) (fun _ z => absurd z List.not_mem_nil)
  have hlen : (ks.map V.int).length ≤ sizeLine := by
    rw [List.length_map, lk]
    exact big
  obtain ⟨D, hD⟩ : ∃ D, D = s2.heap.objs.size := ⟨_, rfl⟩
  have I3 : Inv X pins σ (upd H s2.heap.objs.size (.lst (ks.map V.int))) { s2 with heap := s2.heap.push { cls := .type "list", data := .seq vs.toArray } } := I0.lnew (its := vs) (t' := s2.toks) rel hlen
  have fD : H s2.heap.objs.size = none := I0.fresh
  rw [← hD] at I3 fD ⊢
  obtain ⟨zl, its, m, rv, hob⟩ := I3.hok D _ upd_same
  have hi2 := rv.ints
  refine wpAny_bind (wpAny_holding (wpAny_call_entry PyProof.Rows.slot_list_sort ⟨_, hob, rfl⟩ PyProof.Rows.entry_list_sort
    (SrtO.list_sort_ord SrtO.swo_int hob (by rw [← rv.length]; exact zl) (fun h2 => SrtO.ints_sortable hi2 h2) fun out h1 h2 => ⟨.none, rfl, ?_⟩) (PyProof.Rows.args_list_sort _)))
  obtain ⟨k1, kp, k3⟩ := SrtO.ints_out hi2 h1 h2
  obtain ⟨ep2, he'⟩ := PyProof.Rows.sortedHeap_at (vs := its) (out := out.toArray) hob
  have ho : ((out.map SrtO.iv).map V.int).length ≤ sizeLine := by
    rw [List.length_map, kp.length_eq, lk]
    exact big
  have I4 := I3.write (x := D) (e := D) (o := .lst ((out.map SrtO.iv).map V.int)) (t' := s2.toks) (by rw [upd_same]; trivial) (.inl rfl) (fun b u hb hu => by
    rw [PyProof.Rows.sortedHeap_old hb (Heap.lt_size hu)]; exact hu) ⟨_, he'⟩ ⟨ho, out, ep2, vals_of_ints k1, he'⟩
  rw [upd_upd] at I4
  have pn := kp.trans pk
  exact wpAny_pure ⟨_, rfl, .ref D, _, I4, rfl, q _ _ (strict_of kp (pk.nodup_iff.mpr nodup) k3) (fun k => by rw [pn.mem_iff, ← memb k]) ⟨fD⟩⟩
end

theorem wide_nn : ∀ {ps : List (Int × Int)}, (∀ q ∈ ps, 0 < q.1) → 0 ≤ wide ps
  | [], _ => Int.le_refl _
  | p :: ps, h => by
    have ih := wide_nn (ps := ps) fun q hq => h q (List.mem_cons_of_mem _ hq)
    have hp := h p List.mem_cons_self
    show 0 ≤ p.1 + wide ps
    omega
theorem wide_app (ps qs : List (Int × Int)) : wide (ps ++ qs) = wide ps + wide qs := by
  unfold wide
  rw [List.map_append, List.sum_append]
theorem wide_in {ps : List (Int × Int)} (h : ∀ q ∈ ps, 0 < q.1) (i : Nat) : 0 ≤ wide (ps.take i) ∧ wide (ps.take i) ≤ wide ps := by
  have a := wide_nn (ps := ps.take i) fun q hq => h q (List.mem_of_mem_take hq)
  have b := wide_nn (ps := ps.drop i) fun q hq => h q (List.mem_of_mem_drop hq)
  have e := wide_app (ps.take i) (ps.drop i)
  rw [List.take_append_drop] at e
  omega
theorem run_cell {ps : List (Int × Int)} (h : ∀ q ∈ ps, 0 < q.1) {i : Nat} {p : Int × Int} (hp : ps[i]? = some p) {x : Nat}
    (h0 : wide (ps.take i) ≤ x) (h1 : (x : Int) < wide (ps.take i) + p.1) : (cells ps)[x]? = some p.2 := by
  obtain ⟨hi, e⟩ := List.getElem?_eq_some_iff.mp hp
  have hs : ps = ps.take i ++ (p :: ps.drop (i + 1)) := by
    rw [← e, ← List.drop_eq_getElem_cons hi, List.take_append_drop]
  have hl := cells_len (ps.take i) fun q hq => h q (List.mem_of_mem_take hq)
  rw [hs, cells_app, cells_cons, List.getElem?_append_right (by omega), List.getElem?_append_left (by rw [List.length_replicate]; omega),
    List.getElem?_replicate, if_pos (by omega)]
theorem okI_M {v : Int} (h : okM v) : okI v := okI_of (by have := h.1; omega) (by have := h.2; omega)
theorem ok_runs {cs : List Int} (h : ∀ v ∈ cs, okM v) (hl : cs.length ≤ 1000000000000000000) : ∀ q ∈ rle cs, okI q.1 ∧ okI q.2 := by
  intro q hq
  obtain ⟨i, hi⟩ := List.getElem?_of_mem hq
  have hp := rle_pos cs q hq
  have hw := wide_nn (ps := (rle cs).take i) fun z hz => rle_pos cs z (List.mem_of_mem_take hz)
  have cell : ∀ x : Nat, wide ((rle cs).take i) ≤ x → (x : Int) < wide ((rle cs).take i) + q.1 → cs[x]? = some q.2 := fun x h0 h1 => by
    have z := run_cell (rle_pos cs) hi h0 h1
    rw [cells_rle] at z
    exact z
  refine ⟨?_, ?_⟩
  · have z := cell (wide ((rle cs).take i) + q.1 - 1).toNat (by omega) (by omega)
    have := (List.getElem?_eq_some_iff.mp z).1
    exact okI_of (by omega) (by omega)
  · have z := cell (wide ((rle cs).take i)).toNat (by omega) (by omega)
    exact okI_M (h _ (List.mem_of_getElem? z))
theorem repr_int {K : PySem.W.Frag} {H : Hp} {Q : VK} {n : Int} (h : okI n) (q : Q (.str (PyData.int n).shown) H) : rRepr K [.int n] H Q :=
  i_repr (.int n) (decide_eq_true h) (by simp only [PyData.depth]; omega) (by simp only [cw]; exact (by decide)) q

/-! ### where runs end; columns -/
def endsR (ps : List (Int × Int)) : List Int := (List.range ps.length).map fun i => wide (ps.take (i + 1))
theorem mem_endsR {ps : List (Int × Int)} {e : Int} : e ∈ endsR ps ↔ ∃ j, j < ps.length ∧ e = wide (ps.take (j + 1)) := by
  unfold endsR
  rw [List.mem_map]
  constructor
  · rintro ⟨j, hj, rfl⟩
    exact ⟨j, List.mem_range.mp hj, rfl⟩
  · rintro ⟨j, hj, rfl⟩
    exact ⟨j, List.mem_range.mpr hj, rfl⟩
theorem endsR_len {ps : List (Int × Int)} : (endsR ps).length = ps.length := by
  unfold endsR
  rw [List.length_map, List.length_range]
/-- E: rising, with all ends of cs, none beyond -/
structure EOk (cs E : List Int) : Prop where
  srt : E.Pairwise (· < ·)
  pos : ∀ x ∈ E, 0 < x
  le : ∀ x ∈ E, x ≤ cs.length
  sub : ∀ x ∈ endsR (rle cs), x ∈ E
theorem pw_at {E : List Int} (h : E.Pairwise (· < ·)) {i j : Nat} {x y : Int} (hx : E[i]? = some x) (hy : E[j]? = some y) (le : i < j) : x < y := by
  obtain ⟨hi, ei⟩ := List.getElem?_eq_some_iff.mp hx
  obtain ⟨hj, ej⟩ := List.getElem?_eq_some_iff.mp hy
  rw [← ei, ← ej]
  exact List.pairwise_iff_getElem.mp h i j hi hj le
/-- what of E lies below E[i] lies at or below what is ahead of it -/
theorem pw_below {E : List Int} (h : E.Pairwise (· < ·)) (pos : ∀ x ∈ E, 0 < x) {i : Nat} {b e x : Int} (hb : (0 :: E)[i]? = some b) (he : E[i]? = some e) (hx : x ∈ E) (lt : x < e) : x ≤ b := by
  obtain ⟨k, hk⟩ := List.getElem?_of_mem hx
  have ki : k < i := by
    rcases Nat.lt_trichotomy k i with c | c | c
    · exact c
    · rw [c, he] at hk
      injection hk with hk
      omega
    · have := pw_at h he hk c
      omega
  obtain ⟨m, rfl⟩ : ∃ m, i = m + 1 := ⟨i - 1, by omega⟩
  rw [List.getElem?_cons_succ] at hb
  rcases Nat.lt_or_ge k m with c | c
  · have := pw_at h hk hb c
    omega
  · have e1 : k = m := by omega
    rw [e1, hb] at hk
    injection hk with hk
    omega
theorem first_run {ps : List (Int × Int)} {e : Int} (h0 : 0 < e) : ∀ k, k ≤ ps.length → e ≤ wide (ps.take k) → ∃ j p, ps[j]? = some p ∧ wide (ps.take j) < e ∧ e ≤ wide (ps.take j) + p.1
  | 0, _, h => by
    rw [List.take_zero] at h
    have : wide [] = 0 := rfl
    omega
  | k + 1, hk, h => by
    by_cases c : e ≤ wide (ps.take k)
    · exact first_run h0 k (by omega) c
    · have hp : ps[k]? = some ps[k] := List.getElem?_eq_getElem (by omega)
      rw [wide_take hp] at h
      exact ⟨k, ps[k], hp, by omega, h⟩
theorem EOk.run {cs E : List Int} (h : EOk cs E) {i : Nat} {b e : Int} (hb : (0 :: E)[i]? = some b) (he : E[i]? = some e) : ∃ j p, (rle cs)[j]? = some p ∧ wide ((rle cs).take j) ≤ b ∧ e ≤ wide ((rle cs).take j) + p.1 := by
  have hem := List.mem_of_getElem? he
  have e0 := h.pos e hem
  have el := h.le e hem
  obtain ⟨j, p, hp, h1, h2⟩ := first_run e0 (rle cs).length (Nat.le_refl _) (by rw [List.take_length, wide_rle]; exact el)
  refine ⟨j, p, hp, ?_, h2⟩
  cases j with
  | zero =>
    rw [List.take_zero]
    show (0 : Int) ≤ b
    rcases List.mem_cons.mp (List.mem_of_getElem? hb) with c | c
    · omega
    · have := h.pos b c
      omega
  | succ j =>
    have hj := (List.getElem?_eq_some_iff.mp hp).1
    exact pw_below h.srt h.pos hb he (h.sub _ (mem_endsR.mpr ⟨j, by omega, rfl⟩)) h1
theorem EOk.lt {cs E : List Int} (h : EOk cs E) {i : Nat} {b e : Int} (hb : (0 :: E)[i]? = some b) (he : E[i]? = some e) : 0 ≤ b ∧ b < e := by
  cases i with
  | zero =>
    cases hb
    have := h.pos e (List.mem_of_getElem? he)
    omega
  | succ i =>
    rw [List.getElem?_cons_succ] at hb
    have := pw_at h.srt hb he (Nat.lt_succ_self i)
    have := h.pos b (List.mem_of_getElem? hb)
    omega
/-- all cells of a piece have what its first one has -/
theorem EOk.same {cs E : List Int} (h : EOk cs E) {i : Nat} {b e x : Int} (hb : (0 :: E)[i]? = some b) (he : E[i]? = some e) (h1 : b ≤ x) (h2 : x < e) : cs[x.toNat]? = some (cs.getD b.toNat 0) := by
  obtain ⟨j, p, hp, q1, q2⟩ := h.run hb he
  obtain ⟨b0, be⟩ := h.lt hb he
  have c1 := run_cell (rle_pos cs) hp (x := x.toNat) (by omega) (by omega)
  have c2 := run_cell (rle_pos cs) hp (x := b.toNat) (by omega) (by omega)
  rw [cells_rle] at c1 c2
  rw [c1, List.getD_eq_getElem?_getD, c2]
  rfl
/-- what the worlds have in the cell b -/
def colN (c : Int → List Int) (liv : List Int) (b : Int) : List (Int × Int) := liv.map fun w => (w, (c w).getD b.toNat 0)
def colsOf (c : Int → List Int) (liv E : List Int) : List (Int × List (Int × Int)) := ((0 :: E).zip E).map fun q => (q.2 - q.1, colN c liv q.1)
theorem colsOf_len {c : Int → List Int} {liv E : List Int} : (colsOf c liv E).length = E.length := by
  unfold colsOf
  rw [List.length_map, List.length_zip, List.length_cons]
  omega
theorem colsOf_get {c : Int → List Int} {liv E : List Int} {i : Nat} {b e : Int} (hb : (0 :: E)[i]? = some b) (he : E[i]? = some e) : (colsOf c liv E)[i]? = some (e - b, colN c liv b) := by
  unfold colsOf
  rw [List.getElem?_map, List.getElem?_zip_eq_some (z := (b, e)) |>.mpr ⟨hb, he⟩]
  rfl
/-- a list of tuples, how many and a dict -/
def ColVs (H : Hp) : List V → List (Int × List (Int × Int)) → Prop
  | [], [] => True
  | x :: xs, q :: qs => (∃ t d, x = .ref t ∧ H t = some (.tup [.int q.1, .ref d]) ∧ H d = some (.dK (q.2.map kN))) ∧ ColVs H xs qs
  | _, _ => False
theorem ColVs.len {H : Hp} : ∀ {xs : List V} {qs : List (Int × List (Int × Int))}, ColVs H xs qs → xs.length = qs.length
  | [], [], _ => rfl
  | _ :: _, _ :: _, h => by rw [List.length_cons, List.length_cons, ColVs.len h.2]
  | [], _ :: _, h => h.elim
  | _ :: _, [], h => h.elim
theorem ColVs.kp {H H' : Hp} (k : Kp [] H H') : ∀ {xs : List V} {qs : List (Int × List (Int × Int))}, ColVs H xs qs → ColVs H' xs qs
  | [], [], _ => trivial
  | _ :: _, _ :: _, ⟨⟨t, d, e, h1, h2⟩, r⟩ => ⟨⟨t, d, e, k.fix _ _ h1 trivial, k.at_ _ _ h2 not_nil⟩, ColVs.kp k r⟩
  | [], _ :: _, h => h.elim
  | _ :: _, [], h => h.elim
/-- a list is written that is none of these -/
theorem ColVs.kl {H H' : Hp} {l : Addr} {ys : List V} (k : Kp [l] H H') (hl : H l = some (.lst ys)) : ∀ {xs : List V} {qs : List (Int × List (Int × Int))}, ColVs H xs qs → ColVs H' xs qs
  | [], [], _ => trivial
  | _ :: _, _ :: _, ⟨⟨t, d, e, h1, h2⟩, r⟩ => ⟨⟨t, d, e, k.fix _ _ h1 trivial, k.at_ _ _ h2 (not_one fun z => by rw [z, hl] at h2; cases h2)⟩, ColVs.kl k hl r⟩
  | [], _ :: _, h => h.elim
  | _ :: _, [], h => h.elim
theorem ColVs.snoc {H : Hp} {t d : Addr} {q : Int × List (Int × Int)} (h1 : H t = some (.tup [.int q.1, .ref d])) (h2 : H d = some (.dK (q.2.map kN))) : ∀ {xs : List V} {qs : List (Int × List (Int × Int))}, ColVs H xs qs → ColVs H (xs ++ [.ref t]) (qs ++ [q])
  | [], [], _ => ⟨⟨t, d, rfl, h1, h2⟩, trivial⟩
  | _ :: _, _ :: _, ⟨a, r⟩ => ⟨a, ColVs.snoc h1 h2 r⟩
  | [], _ :: _, h => h.elim
  | _ :: _, [], h => h.elim
theorem ColVs.get {H : Hp} : ∀ {xs : List V} {qs : List (Int × List (Int × Int))} {i : Nat} {x : V}, ColVs H xs qs → xs[i]? = some x → ∃ q t d, qs[i]? = some q ∧ x = .ref t ∧ H t = some (.tup [.int q.1, .ref d]) ∧ H d = some (.dK (q.2.map kN))
  | [], _, _, _, _, e => by simp at e
  | _ :: _, [], _, _, h, _ => h.elim
  | _ :: _, q :: _, 0, _, ⟨⟨t, d, e, h1, h2⟩, _⟩, ev => by
    cases ev
    exact ⟨q, t, d, rfl, e, h1, h2⟩
  | _ :: xs, _ :: qs, i + 1, x, ⟨_, r⟩, ev => by
    rw [List.getElem?_cons_succ] at ev ⊢
    exact ColVs.get r ev
/-- E: all ends of the memories -/
structure EAll (c : Int → List Int) (liv : List Int) (E : List Int) : Prop where
  srt : E.Pairwise (· < ·)
  mem : ∀ x, x ∈ E ↔ ∃ w ∈ liv, x ∈ endsR (rle (c w))
theorem EAll.uniq {c : Int → List Int} {liv E E' : List Int} (h : EAll c liv E) (h' : EAll c liv E') : E = E' := lt_uniq h.srt h'.srt fun x => by rw [h.mem, h'.mem]
theorem EAll.ok {c : Int → List Int} {liv E : List Int} {n : Int} (h : EAll c liv E) (hn : ∀ w ∈ liv, ((c w).length : Int) = n) {w : Int} (hw : w ∈ liv) : EOk (c w) E := by
  have bnd : ∀ x ∈ E, 0 < x ∧ x ≤ n := fun x hx => by
    obtain ⟨u, hu, hx⟩ := (h.mem x).mp hx
    obtain ⟨j, hj, rfl⟩ := mem_endsR.mp hx
    have hp : (rle (c u))[j]? = some (rle (c u))[j] := List.getElem?_eq_getElem hj
    have p0 := rle_pos (c u) _ (List.mem_of_getElem? hp)
    obtain ⟨a, _⟩ := wide_in (rle_pos (c u)) j
    obtain ⟨_, b⟩ := wide_in (rle_pos (c u)) (j + 1)
    rw [wide_rle, hn u hu] at b
    rw [wide_take hp] at b ⊢
    omega
  exact ⟨h.srt, fun x hx => (bnd x hx).1, fun x hx => by rw [hn w hw]; exact (bnd x hx).2, fun x hx => (h.mem x).mpr ⟨w, hw, hx⟩⟩

def sp_ends_of (K : PySem.W.Frag) (C : Addr) : Sp := fun vs H Q _ => ∃ (m : Addr) (cs : List Int), vs = [.ref m] ∧ MemAt K C H m cs ∧ (rle cs).length ≤ 10000 ∧
  ∀ R H', Fr H R → Kp [] H H' → H' R = some (.lst ((endsR (rle cs)).map V.int)) → Q (.ref R) H'
theorem sc_ends_of : FnScope ["memory", "found", "upto", "many", "number"] ["memory"] (defScope s_ends_of) :=
  ⟨rfl, rfl, rfl, by decide +kernel, rfl, by decide +kernel, by decide +kernel⟩
theorem ok_ends_of {P : Program} {w : World} {K : PySem.W.Frag} {mg : Str → Option Value} {base : Heap} (T : Txt K mg) :
    FnG P w K mg base 2 T.a_ends_of T.d_ends_of ["memory"] (sp_ends_of K T.c_Memory) := by
  refine okD T.F_ends_of sc_ends_of (fun vs H Q E h => ?_) (fun cdv A outer s H vs Q E hr h => ?_)
  · first
      | (obtain ⟨_, rfl, _⟩ := h; rfl)
      | (obtain ⟨_, _, rfl, _⟩ := h; rfl)
      | (obtain ⟨_, _, _, rfl, _⟩ := h; rfl)
      | (obtain ⟨_, _, _, _, rfl, _⟩ := h; rfl)
      | (obtain ⟨_, _, _, _, _, rfl, _⟩ := h; rfl)
      | (obtain ⟨_, _, _, _, _, _, rfl, _⟩ := h; rfl)
      | (obtain ⟨_, _, _, _, _, _, _, rfl, _⟩ := h; rfl)
      | (obtain ⟨_, _, _, _, _, _, _, _, rfl, _⟩ := h; rfl)
      | (obtain ⟨_, _, _, _, _, _, _, _, _, rfl, _⟩ := h; rfl)
      | (obtain ⟨_, _, _, _, _, _, _, _, _, _, rfl, _⟩ := h; rfl)
      | (obtain ⟨_, _, _, _, _, _, _, _, _, _, _, rfl, _⟩ := h; rfl)
      | (obtain ⟨_, _, _, _, _, _, _, _, _, _, _, _, rfl, _⟩ := h; rfl)
      | (obtain ⟨_, _, _, _, _, _, _, _, _, _, _, _, _, rfl, _⟩ := h; rfl)
      | (obtain ⟨_, _, _, _, _, _, _, _, _, _, _, _, _, _, rfl, _⟩ := h; rfl)
      | (obtain ⟨_, _, _, _, _, _, _, _, _, _, _, _, _, _, _, rfl, _⟩ := h; rfl)
      | (obtain ⟨_, _, _, _, _, _, _, _, _, _, _, _, _, _, _, _, rfl, _⟩ := h; rfl)
      | (obtain ⟨_, _, _, _, _, _, _, _, _, _, _, _, _, _, _, _, _, rfl, _⟩ := h; rfl)
      | (obtain ⟨_, _, _, _, _, _, _, _, _, _, _, _, _, _, _, _, _, _, rfl, _⟩ := h; rfl)
      | (obtain ⟨_, _, _, _, _, _, _, _, _, _, _, _, _, _, _, _, _, _, _, rfl, _⟩ := h; rfl)
  · obtain ⟨m, cs, rfl, M, hr1, k⟩ := h
    obtain ⟨_, _, hm, _⟩ := id M
    have cl_Memory := T.cl_Memory
    have na_Memory_pairs := T.na_Memory_pairs
    have na_Memory_wide := T.na_Memory_wide
    refine ⟨_, (pss_cons (ps_set (i := 1) sc_ends_of.nd rfl (Or.inl rfl) (pe_lst pa_nil))
      (pss_cons (ps_set (i := 2) sc_ends_of.nd rfl (Or.inl rfl) pe_int)
      (pss_cons (ps_for (passes_of rfl) rfl (k_plist (K := K) rfl (dm0 T.cl_Memory T.me_Memory_runs (ok_Memory_runs T) (hr.mono (by decide)) T.b_Memory_runs passL (pv 0))) (k_gtup (K := K) 2 rfl rfl (pgs_cons (pg_name (i := 3) sc_ends_of.nd rfl (Or.inl rfl)) (pgs_cons (pg_name (i := 4) sc_ends_of.nd rfl (Or.inl rfl)) pgs_nil)))
      (pss_cons (ps_aug (i := 2) sc_ends_of.nd rfl (Or.inl rfl) (pv 3) ip_add)
      (pss_one (ps_expr (pe_bm PySem.F.plainAttrs_list PySem.F.slot_list_append PySem.F.type_list_append mt_append (pv 1) (pa_cons (pv 2) pa_nil))))))
      (pss_one (ps_ret (pv 1)))))), ?_⟩
    dsimp only [cxOf, st_1, st_2, st_3, st_4, st_5, st_6, List.length_cons, List.length_nil, List.replicate_succ, List.replicate_zero, Nat.reduceAdd, Nat.reduceSub]
    walk_at "gs"
    refine i_new fun F fF => ?_
    have kF : Kp [] H (upd H F (.lst [])) := Kp.new fF
    have hF : (upd H F (.lst [])) F = some (.lst []) := upd_same
    have M1 := mem_kp0 M kF
    obtain ⟨H1, e1⟩ : ∃ H1, H1 = upd H F (.lst []) := ⟨_, rfl⟩
    rw [← e1] at kF hF M1 ⊢
    obtain ⟨_, _, hm1, _⟩ := id M1
    walk_at "gs"
    refine ⟨m, cs, rfl, M1, fun l H2 fl k2 ld => ?_⟩
    obtain ⟨vs, hv, av⟩ := ld
    have lv := dpa_len av
    rw [List.length_map] at lv
    have hF2 := k2.at_ _ _ hF not_nil
    have nlF : l ≠ F := Ne.symm (fr_ne hF fl)
    walk_at "gs"
    refine i_each (SqL.of hv) (fun i σ H' => ∃ o3 o4 : Option V, σ = [some (.ref m), some (.ref F), some (.int (wide ((rle cs).take i))), o3, o4] ∧ Kp [F] H2 H' ∧ H' F = some (.lst (((List.range i).map fun j => wide ((rle cs).take (j + 1))).map V.int))) ?_ ?_ ?_ ?_
    · exact ⟨_, _, rfl, Kp.refl, hF2⟩
    · rintro i σ H' _ ⟨_, _, _, k3, _⟩
      exact SqL.of (k3.at_ _ _ hv (not_one nlF))
    · rintro i y σ H' hy ⟨o3, o4, rfl, k3, hF3⟩
      obtain ⟨d, hd, hdp⟩ := dpa_getV av hy
      obtain ⟨q, hq, rfl⟩ := map_get hd
      obtain ⟨t, rfl, hT⟩ := dp_pair (dp_imm k3 _ _ rfl hdp)
      have hil := (List.getElem?_eq_some_iff.mp hq).1
      walk_at "gs"
      refine i_app hF3 (small_sz (by rw [List.length_map, List.length_map, List.length_range]; omega)) ?_
      walk_at "gs"
      rw [snoc_int, ← wide_take hq]
      refine ⟨_, _, rfl, Kp.trans k3 (kp_set hF3 (fun z => z)), ?_⟩
      have es : (List.range (i + 1)).map (fun j => wide ((rle cs).take (j + 1))) = (List.range i).map (fun j => wide ((rle cs).take (j + 1))) ++ [wide ((rle cs).take (i + 1))] := by
        rw [List.range_succ, List.map_append]
        rfl
      rw [es]
      exact upd_same
    rintro σ H3 ⟨o3, o4, rfl, k3, hF3⟩
    rw [lv] at hF3
    walk_at "gs"
    have k03 : Kp [] H H3 := Kp.drop (Kp.trans (Kp.trans kF k2).wide k3) fF
    exact k F H3 fF k03 hF3
def sp_spread (K : PySem.W.Frag) (C : Addr) : Sp := fun vs H Q _ => ∃ (m a : Addr) (cs E : List Int), vs = [.ref m, .ref a] ∧ MemAt K C H m cs ∧ (rle cs).length ≤ 10000 ∧ 1 ≤ cs.length ∧ H a = some (.lst (E.map V.int)) ∧ E.length ≤ 100000 ∧ EOk cs E ∧
  ∀ R H', Fr H R → Kp [] H H' → H' R = some (.lst ((E.map fun e => cs.getD (e - 1).toNat 0).map V.int)) → Q (.ref R) H'
theorem drop_at {α : Type} {l : List α} {j : Nat} {p : α} (h : l[j]? = some p) : l.drop j = p :: l.drop (j + 1) := by
  obtain ⟨hj, e⟩ := List.getElem?_eq_some_iff.mp h
  rw [List.drop_eq_getElem_cons hj, e]
theorem ld_cons {K : PySem.W.Frag} {H : Hp} {r : Addr} {p : Int × Int} {ps : List (Int × Int)} (h : LD K H r ((p :: ps).map d2)) : ∃ t vs, H r = some (.lst (.ref t :: vs)) ∧ SqT K H t [.int p.1, .int p.2] ∧ DpAll K H vs (ps.map d2) := by
  obtain ⟨vs, e, a⟩ := h
  rw [List.map_cons] at a
  cases a with
  | cons h1 h2 =>
    obtain ⟨t, rfl, ht⟩ := dp_pair h1
    exact ⟨t, _, e, ht, h2⟩
theorem sc_spread : FnScope ["memory", "ends", "rest", "upto", "found", "end"] ["memory", "ends"] (defScope s_spread) :=
  ⟨rfl, rfl, rfl, by decide +kernel, rfl, by decide +kernel, by decide +kernel⟩
theorem ok_spread {P : Program} {w : World} {K : PySem.W.Frag} {mg : Str → Option Value} {base : Heap} (T : Txt K mg) :
    FnG P w K mg base 2 T.a_spread T.d_spread ["memory", "ends"] (sp_spread K T.c_Memory) := by
  refine okD T.F_spread sc_spread (fun vs H Q E h => ?_) (fun cdv A outer s H vs Q E hr h => ?_)
  · first
      | (obtain ⟨_, rfl, _⟩ := h; rfl)
      | (obtain ⟨_, _, rfl, _⟩ := h; rfl)
      | (obtain ⟨_, _, _, rfl, _⟩ := h; rfl)
      | (obtain ⟨_, _, _, _, rfl, _⟩ := h; rfl)
      | (obtain ⟨_, _, _, _, _, rfl, _⟩ := h; rfl)
      | (obtain ⟨_, _, _, _, _, _, rfl, _⟩ := h; rfl)
      | (obtain ⟨_, _, _, _, _, _, _, rfl, _⟩ := h; rfl)
      | (obtain ⟨_, _, _, _, _, _, _, _, rfl, _⟩ := h; rfl)
      | (obtain ⟨_, _, _, _, _, _, _, _, _, rfl, _⟩ := h; rfl)
      | (obtain ⟨_, _, _, _, _, _, _, _, _, _, rfl, _⟩ := h; rfl)
      | (obtain ⟨_, _, _, _, _, _, _, _, _, _, _, rfl, _⟩ := h; rfl)
      | (obtain ⟨_, _, _, _, _, _, _, _, _, _, _, _, rfl, _⟩ := h; rfl)
      | (obtain ⟨_, _, _, _, _, _, _, _, _, _, _, _, _, rfl, _⟩ := h; rfl)
      | (obtain ⟨_, _, _, _, _, _, _, _, _, _, _, _, _, _, rfl, _⟩ := h; rfl)
      | (obtain ⟨_, _, _, _, _, _, _, _, _, _, _, _, _, _, _, rfl, _⟩ := h; rfl)
      | (obtain ⟨_, _, _, _, _, _, _, _, _, _, _, _, _, _, _, _, rfl, _⟩ := h; rfl)
      | (obtain ⟨_, _, _, _, _, _, _, _, _, _, _, _, _, _, _, _, _, rfl, _⟩ := h; rfl)
      | (obtain ⟨_, _, _, _, _, _, _, _, _, _, _, _, _, _, _, _, _, _, rfl, _⟩ := h; rfl)
      | (obtain ⟨_, _, _, _, _, _, _, _, _, _, _, _, _, _, _, _, _, _, _, rfl, _⟩ := h; rfl)
  · obtain ⟨m, a, cs, E, rfl, M, hr1, hc1, ha, hEl, ok, k⟩ := h
    obtain ⟨_, _, hm, _⟩ := id M
    have hne : rle cs ≠ [] := rle_ne (by
      intro e
      rw [e] at hc1
      simp at hc1)
    obtain ⟨q0, qt, eq0⟩ := List.exists_cons_of_ne_nil hne
    have hq0 : (rle cs)[0]? = some q0 := by rw [eq0]; rfl
    have cl_Memory := T.cl_Memory
    have na_Memory_pairs := T.na_Memory_pairs
    have na_Memory_wide := T.na_Memory_wide
    refine ⟨_, (pss_cons (ps_set (i := 2) sc_spread.nd rfl (Or.inl rfl) (dm0 T.cl_Memory T.me_Memory_runs (ok_Memory_runs T) (hr.mono (by decide)) T.b_Memory_runs passL (pv 0)))
      (pss_cons (ps_set (i := 3) sc_spread.nd rfl (Or.inl rfl) (pe_ix (k_ix (K := K) rfl) (pe_ix (k_ix (K := K) rfl) (pv 2) pe_int (fun _ _ => rfl)) pe_int (fun _ _ => rfl)))
      (pss_cons (ps_set (i := 4) sc_spread.nd rfl (Or.inl rfl) (pe_lst pa_nil))
      (pss_cons (ps_for (passes_of rfl) rfl (k_plist (K := K) rfl (pv 1)) (pg_name (i := 5) sc_spread.nd rfl (Or.inl rfl))
      (pss_cons (ps_if (pt_cmpR op_gt (pv 5) (pv 3) (nomark _)) (pss_cons (ps_set (i := 2) sc_spread.nd rfl (Or.inl rfl) (pe_slice (k_sl (K := K) rfl) (pv 2) (po_some pe_int) po_none))
      (pss_one (ps_aug (i := 3) sc_spread.nd rfl (Or.inl rfl) (pe_ix (k_ix (K := K) rfl) (pe_ix (k_ix (K := K) rfl) (pv 2) pe_int (fun _ _ => rfl)) pe_int (fun _ _ => rfl)) ip_add))) pss_nil)
      (pss_one (ps_expr (pe_bm PySem.F.plainAttrs_list PySem.F.slot_list_append PySem.F.type_list_append mt_append (pv 4) (pa_cons (pe_ix (k_ix (K := K) rfl) (pe_ix (k_ix (K := K) rfl) (pv 2) pe_int (fun _ _ => rfl)) pe_int (fun _ _ => rfl)) pa_nil))))))
      (pss_one (ps_ret (pv 4))))))), ?_⟩
    dsimp only [cxOf, st_1, st_2, st_3, st_4, st_5, st_6, List.length_cons, List.length_nil, List.replicate_succ, List.replicate_zero, Nat.reduceAdd, Nat.reduceSub]
    walk_at "gs"
    refine ⟨m, cs, rfl, M, fun l H1 fl k1 ld1 => ?_⟩
    have ld1' : LD K H1 l ((q0 :: qt).map d2) := by rw [← eq0]; exact ld1
    obtain ⟨t0, vt, hl1, ht0, _⟩ := ld_cons ld1'
    walk_at "gs"
    refine i_new fun F fF => ?_
    have kF : Kp [] H1 (upd H1 F (.lst [])) := Kp.new fF
    have hF : (upd H1 F (.lst [])) F = some (.lst []) := upd_same
    have ld2 := ld1.kp kF (imms_d2 _) not_nil
    have nlF : l ≠ F := fr_ne hl1 fF
    have ha1 := k1.at_ _ _ ha not_nil
    have ha2 := kF.at_ _ _ ha1 not_nil
    have naF : a ≠ F := fr_ne ha1 fF
    obtain ⟨H2, e2⟩ : ∃ H2, H2 = upd H1 F (.lst []) := ⟨_, rfl⟩
    rw [← e2] at kF hF ld2 ha2 ⊢
    have ew : wide ((rle cs).take (0 + 1)) = q0.1 := by
      rw [wide_take hq0, List.take_zero]
      show (0 : Int) + q0.1 = q0.1
      omega
    have wn : wide (rle cs) = cs.length := wide_rle cs
    walk_at "gs"
    refine i_each (SqL.of ha2) (fun i σ H' => ∃ (o5 : Option V) (r : Addr) (j : Nat), σ = [some (.ref m), some (.ref a), some (.ref r), some (.int (wide ((rle cs).take (j + 1)))), some (.ref F), o5] ∧ Kp [F] H2 H' ∧ H' F = some (.lst (((E.take i).map fun e => cs.getD (e - 1).toNat 0).map V.int)) ∧ LD K H' r (((rle cs).drop j).map d2) ∧ r ≠ F ∧ j < (rle cs).length ∧ (∀ x ∈ E.drop i, wide ((rle cs).take j) < x) ∧ ∀ x ∈ E.take i, x ≤ wide ((rle cs).take (j + 1))) ?_ ?_ ?_ ?_
    · refine ⟨none, l, 0, by rw [ew]; rfl, Kp.refl, hF, ld2, nlF, (List.getElem?_eq_some_iff.mp hq0).1, fun x hx => ?_, fun x hx => nomatch hx⟩
      rw [List.take_zero]
      exact ok.pos x hx
    · rintro i σ H' _ ⟨_, _, _, _, k3, _⟩
      exact SqL.of (k3.at_ _ _ ha2 (not_one naF))
    · rintro i y σ H' hy ⟨o5, r, j, rfl, k3, hF3, ld3, nrF, hj, dn, up⟩
      obtain ⟨x, hx, rfl⟩ := map_get hy
      have hxm := List.mem_of_getElem? hx
      have hxd : x ∈ E.drop i := by
        rw [drop_at hx]
        exact List.mem_cons_self
      have x0 := ok.pos x hxm
      have xn := ok.le x hxm
      have hpj : (rle cs)[j]? = some (rle cs)[j] := List.getElem?_eq_getElem hj
      have ld3' : LD K H' r ((((rle cs)[j]) :: (rle cs).drop (j + 1)).map d2) := by rw [← drop_at hpj]; exact ld3
      obtain ⟨t, vs, hr3, ht3, av3⟩ := ld_cons ld3'
      have lav := dpa_len av3
      have hil := (List.getElem?_eq_some_iff.mp hx).1
      show gName 5 (.int x) _ _ _
      with_reducible refine i_gName ?_
      with_reducible refine i_seq ?_
      refine i_cutIf (fun σ' G => ∃ (r' : Addr) (j' : Nat), σ' = [some (.ref m), some (.ref a), some (.ref r'), some (.int (wide ((rle cs).take (j' + 1)))), some (.ref F), some (.int x)] ∧ Kp [F] H2 G ∧ G F = some (.lst (((E.take i).map fun e => cs.getD (e - 1).toNat 0).map V.int)) ∧ LD K G r' (((rle cs).drop j').map d2) ∧ r' ≠ F ∧ j' < (rle cs).length ∧ (∀ x ∈ E.drop i, wide ((rle cs).take j') < x) ∧ x ≤ wide ((rle cs).take (j' + 1))) ?_ (fun D' go => ?_)
      · rintro σ' G ⟨r', j', rfl, k4, hF4, ld4, nrF', hj', dn', up'⟩
        have hp' : (rle cs)[j']? = some (rle cs)[j'] := List.getElem?_eq_getElem hj'
        have ld4' : LD K G r' ((((rle cs)[j']) :: (rle cs).drop (j' + 1)).map d2) := by rw [← drop_at hp']; exact ld4
        obtain ⟨t4, vs4, hr4, ht4, av4⟩ := ld_cons ld4'
        walk_at "gs"
        refine i_app hF4 (small_sz (by rw [List.length_map, List.length_map, List.length_take]; omega)) ?_
        rw [snoc_int]
        walk_at "gs"
        have lt := dn' x hxd
        have val : cs.getD (x - 1).toNat 0 = (rle cs)[j'].2 := by
          have z := run_cell (rle_pos cs) hp' (x := (x - 1).toNat) (by omega) (by rw [wide_take hp'] at up'; omega)
          rw [cells_rle] at z
          rw [List.getD_eq_getElem?_getD, z]
          rfl
        have kA : Kp [F] G (upd G F (.lst ((((E.take i).map fun e => cs.getD (e - 1).toNat 0) ++ [(rle cs)[j'].2]).map V.int))) := kp_set hF4 (fun z => z)
        refine ⟨_, r', j', rfl, Kp.trans k4 kA, ?_, ld4.kp kA (imms_d2 _) (not_one nrF'), nrF', hj', fun y hy => dn' y ?_, fun y hy => ?_⟩
        · have es : (E.take (i + 1)).map (fun e => cs.getD (e - 1).toNat 0) = (E.take i).map (fun e => cs.getD (e - 1).toNat 0) ++ [(rle cs)[j'].2] := by
            rw [List.take_add_one, hx, List.map_append, ← val]
            rfl
          rw [es]
          exact upd_same
        · rw [drop_at hx]
          exact List.mem_cons_of_mem _ hy
        · rw [List.take_add_one, hx] at hy
          rcases List.mem_append.mp hy with h | h
          · obtain ⟨kk, hkk⟩ := List.getElem?_of_mem h
            have lk := (List.getElem?_eq_some_iff.mp hkk).1
            rw [List.length_take] at lk
            rw [List.getElem?_take_of_lt (by omega)] at hkk
            have := pw_at ok.srt hkk hx (by omega)
            omega
          · rw [List.mem_singleton.mp h]
            exact up'
      · walk_at "gs"
        refine i_dec (fun c => ?_) (fun c => ?_)
        · have j1 : j + 1 < (rle cs).length := by
            refine Nat.lt_of_not_le fun le => ?_
            rw [List.take_of_length_le le, wn] at c
            omega
          have hp1 : (rle cs)[j + 1]? = some (rle cs)[j + 1] := List.getElem?_eq_getElem j1
          walk_at "gs"
          refine i_new fun r2 fr2 => ?_
          rw [cutV_tail]
          have k5 : Kp [] H' (upd H' r2 (.lst vs)) := Kp.new fr2
          have ld5 : LD K (upd H' r2 (.lst vs)) r2 (((rle cs).drop (j + 1)).map d2) := ⟨vs, upd_same, dpa_imm k5 _ _ (imms_d2 _) av3⟩
          have hF5 := k5.at_ _ _ hF3 not_nil
          have nr2 : r2 ≠ F := Ne.symm (fr_ne hF3 fr2)
          obtain ⟨H5, e5⟩ : ∃ H5, H5 = upd H' r2 (.lst vs) := ⟨_, rfl⟩
          rw [← e5] at k5 ld5 hF5 ⊢
          have ld5' : LD K H5 r2 ((((rle cs)[j + 1]) :: (rle cs).drop (j + 2)).map d2) := by rw [← drop_at hp1]; exact ld5
          obtain ⟨t5, vs5, hr5, ht5, _⟩ := ld_cons ld5'
          walk_at "gs"
          refine go _ _ ⟨r2, j + 1, by rw [wide_take hp1]; rfl, Kp.trans k3 k5.wide, hF5, ld5, nr2, j1, fun y hy => ?_, ?_⟩
          · obtain ⟨kk, hkk⟩ := List.getElem?_of_mem hy
            rw [List.getElem?_drop] at hkk
            rcases Nat.eq_zero_or_pos kk with z | z
            · rw [z, Nat.add_zero, hx] at hkk
              injection hkk with hkk
              omega
            · have := pw_at ok.srt hx hkk (by omega)
              omega
          · refine Int.not_lt.mp fun lt => ?_
            have hm2 := ok.sub _ (mem_endsR.mpr ⟨j + 1, j1, rfl⟩)
            obtain ⟨kk, hkk⟩ := List.getElem?_of_mem hm2
            have ki : kk < i := by
              rcases Nat.lt_trichotomy kk i with z | z | z
              · exact z
              · rw [z, hx] at hkk
                injection hkk with hkk
                omega
              · have := pw_at ok.srt hx hkk z
                omega
            have u1 := up _ (List.mem_of_getElem? (by rw [List.getElem?_take_of_lt ki]; exact hkk))
            have p1 := rle_pos cs _ (List.mem_of_getElem? hp1)
            rw [wide_take hp1] at u1
            omega
        · walk_at "gs"
          exact go _ _ ⟨r, j, rfl, k3, hF3, ld3, nrF, hj, dn, by omega⟩
    rintro σ H3 ⟨o5, r, j, rfl, k3, hF3, _⟩
    rw [List.length_map, List.take_length] at hF3
    walk_at "gs"
    have k03 : Kp [] H H3 := Kp.drop (Kp.trans (Kp.trans k1 kF).wide k3) (k1.free fF)
    exact k F H3 (k1.free fF) k03 hF3

/-- the dicts behind the tuples of a list of tuples -/
def DsOf (H : Hp) : List V → List Addr → Prop
  | [], [] => True
  | x :: xs, d :: ds => (∃ t v, x = .ref t ∧ H t = some (.tup [v, .ref d])) ∧ DsOf H xs ds
  | _, _ => False
theorem DsOf.kp {H H' : Hp} {ws : List Addr} (k : Kp ws H H') : ∀ {xs : List V} {ds : List Addr}, DsOf H xs ds → DsOf H' xs ds
  | [], [], _ => trivial
  | _ :: _, _ :: _, ⟨⟨t, v, e, h⟩, r⟩ => ⟨⟨t, v, e, k.fix _ _ h trivial⟩, DsOf.kp k r⟩
  | [], _ :: _, h => h.elim
  | _ :: _, [], h => h.elim
theorem DsOf.snoc {H : Hp} {t d : Addr} {v : V} (h1 : H t = some (.tup [v, .ref d])) : ∀ {xs : List V} {ds : List Addr}, DsOf H xs ds → DsOf H (xs ++ [.ref t]) (ds ++ [d])
  | [], [], _ => ⟨⟨t, v, rfl, h1⟩, trivial⟩
  | _ :: _, _ :: _, ⟨a, r⟩ => ⟨a, DsOf.snoc h1 r⟩
  | [], _ :: _, h => h.elim
  | _ :: _, [], h => h.elim
theorem DsOf.get {H : Hp} {t d : Addr} {v : V} (h : H t = some (.tup [v, .ref d])) : ∀ {xs : List V} {ds : List Addr} {i : Nat}, DsOf H xs ds → xs[i]? = some (.ref t) → ds[i]? = some d
  | [], _, _, _, e => by simp at e
  | _ :: _, [], _, h, _ => h.elim
  | _ :: _, d' :: _, 0, ⟨⟨t', v', e, h1⟩, _⟩, ev => by
    rw [e] at ev
    cases ev
    rw [h] at h1
    cases h1
    rfl
  | _ :: xs, _ :: ds, i + 1, ⟨_, r⟩, ev => by
    rw [List.getElem?_cons_succ] at ev ⊢
    exact DsOf.get h r ev
theorem DsOf.len {H : Hp} : ∀ {xs : List V} {ds : List Addr}, DsOf H xs ds → xs.length = ds.length
  | [], [], _ => rfl
  | _ :: _, _ :: _, h => by rw [List.length_cons, List.length_cons, DsOf.len h.2]
  | [], _ :: _, h => h.elim
  | _ :: _, [], h => h.elim
/-- these dicts are unlike, and are there since H0 -/
def DsOk (H0 H : Hp) (xs : List V) : Prop := ∃ ds, DsOf H xs ds ∧ ds.Nodup ∧ ∀ d ∈ ds, Fr H0 d ∧ Tr H d
theorem DsOk.nil {H0 H : Hp} : DsOk H0 H [] := ⟨[], trivial, .nil, fun _ h => nomatch h⟩
theorem DsOk.kp {H0 H H' : Hp} {ws : List Addr} {xs : List V} (h : DsOk H0 H xs) (k : Kp ws H H') : DsOk H0 H' xs := by
  obtain ⟨ds, a, b, c⟩ := h
  exact ⟨ds, a.kp k, b, fun d hd => ⟨(c d hd).1, tr_kp k (c d hd).2⟩⟩
theorem DsOk.snoc {H0 H H' : Hp} {ws : List Addr} {xs : List V} {t d : Addr} {v : V} (h : DsOk H0 H xs) (f : Fr H d) (f0 : Fr H0 d) (k : Kp ws H H') (ht : H' t = some (.tup [v, .ref d])) (td : Tr H' d) : DsOk H0 H' (xs ++ [.ref t]) := by
  obtain ⟨ds, a, b, c⟩ := h
  refine ⟨ds ++ [d], (a.kp k).snoc ht, ?_, fun x hx => ?_⟩
  · rw [List.nodup_append]
    refine ⟨b, by simp, fun x hx y hy e => ?_⟩
    rw [List.mem_singleton.mp hy] at e
    exact fr_tr (c x hx).2 f e
  · rcases List.mem_append.mp hx with hx | hx
    · exact ⟨(c x hx).1, tr_kp k (c x hx).2⟩
    · rw [List.mem_singleton.mp hx]
      exact ⟨f0, td⟩

theorem fr_frz {H : Hp} {d L : Addr} {u v : HO} (hd : H d = some u) (f : Fr (upd H d v) L) : L ≠ d ∧ Fr H L := by
  have n : L ≠ d := fun e => by
    have := f.e
    rw [e, upd_same] at this
    cases this
  refine ⟨n, ⟨?_⟩⟩
  have := f.e
  rw [upd_ne n] at this
  exact this
theorem flat_le {α β : Type} {f : α → List β} {n : Nat} : ∀ {l : List α}, (∀ x ∈ l, (f x).length ≤ n) → (l.flatMap f).length ≤ n * l.length
  | [], _ => Nat.zero_le _
  | a :: l, h => by
    have ih := flat_le (l := l) fun x hx => h x (List.mem_cons_of_mem _ hx)
    have := h a List.mem_cons_self
    rw [List.flatMap_cons, List.length_append, List.length_cons, Nat.mul_add]
    omega
theorem nin_take {l : List Int} {i : Nat} {w : Int} (nd : l.Nodup) (e : l[i]? = some w) : w ∉ l.take i := fun m => by
  obtain ⟨j, hj⟩ := List.getElem?_of_mem m
  have lj := (List.getElem?_eq_some_iff.mp hj).1
  rw [List.length_take] at lj
  rw [List.getElem?_take_of_lt (by omega)] at hj
  have := (List.getElem?_inj (List.getElem?_eq_some_iff.mp e).1 nd).mp (e.trans hj.symm)
  omega
/-- what the memory c has ahead of each end -/
def spr (c : Int → List Int) (E : List Int) (w : Int) : List Int := E.map fun e => (c w).getD (e - 1).toNat 0
theorem put_kNc {w n : Int} {pr : List (Int × Int)} (h : w ∉ pr.map (·.1)) : putK (pr.map kN) (.inl w) (.int n) = (pr ++ [(w, n)]).map kN := by
  rw [putK_new _ (valN_none h), List.map_append]
  rfl
def sp_columns (K : PySem.W.Frag) (C : Addr) : Sp := fun vs H Q _ => ∃ (d : Addr) (es : List (Int × Addr × Addr)) (c : Int → List Int) (n : Int), vs = [.ref d] ∧ H d = some (.dK (es.map kM)) ∧ (∀ e ∈ es, MemL K C H e.2.1 e.2.2 (c e.1)) ∧ (es.map (·.1)).Nodup ∧ es.length ≤ 7 ∧ 1 ≤ n ∧ (∀ e ∈ es, ((c e.1).length : Int) = n ∧ (rle (c e.1)).length ≤ 24) ∧
  ∀ R (E : List Int) xs H', EAll c (es.map (·.1)) E → ColVs H' xs (colsOf c (es.map (·.1)) E) → DsOk H H' xs → Fr H R → Kp [] H H' → H' R = some (.lst xs) → E.length ≤ 168 → Q (.ref R) H'
theorem sc_columns : FnScope ["memories", "ends", "spreads", "found", "at", "begin", "end", "memory", "world", "row"] ["memories"] (defScope s_columns) :=
  ⟨rfl, rfl, rfl, by decide +kernel, rfl, by decide +kernel, by decide +kernel⟩
theorem ok_columns {P : Program} {w : World} {K : PySem.W.Frag} {mg : Str → Option Value} {base : Heap} (T : Txt K mg) :
    FnG P w K mg base 3 T.a_columns T.d_columns ["memories"] (sp_columns K T.c_Memory) := by
  refine okD T.F_columns sc_columns (fun vs H Q E h => ?_) (fun cdv A outer s H vs Q E hr h => ?_)
  · first
      | (obtain ⟨_, rfl, _⟩ := h; rfl)
      | (obtain ⟨_, _, rfl, _⟩ := h; rfl)
      | (obtain ⟨_, _, _, rfl, _⟩ := h; rfl)
      | (obtain ⟨_, _, _, _, rfl, _⟩ := h; rfl)
      | (obtain ⟨_, _, _, _, _, rfl, _⟩ := h; rfl)
      | (obtain ⟨_, _, _, _, _, _, rfl, _⟩ := h; rfl)
      | (obtain ⟨_, _, _, _, _, _, _, rfl, _⟩ := h; rfl)
      | (obtain ⟨_, _, _, _, _, _, _, _, rfl, _⟩ := h; rfl)
      | (obtain ⟨_, _, _, _, _, _, _, _, _, rfl, _⟩ := h; rfl)
      | (obtain ⟨_, _, _, _, _, _, _, _, _, _, rfl, _⟩ := h; rfl)
      | (obtain ⟨_, _, _, _, _, _, _, _, _, _, _, rfl, _⟩ := h; rfl)
      | (obtain ⟨_, _, _, _, _, _, _, _, _, _, _, _, rfl, _⟩ := h; rfl)
      | (obtain ⟨_, _, _, _, _, _, _, _, _, _, _, _, _, rfl, _⟩ := h; rfl)
      | (obtain ⟨_, _, _, _, _, _, _, _, _, _, _, _, _, _, rfl, _⟩ := h; rfl)
      | (obtain ⟨_, _, _, _, _, _, _, _, _, _, _, _, _, _, _, rfl, _⟩ := h; rfl)
      | (obtain ⟨_, _, _, _, _, _, _, _, _, _, _, _, _, _, _, _, rfl, _⟩ := h; rfl)
      | (obtain ⟨_, _, _, _, _, _, _, _, _, _, _, _, _, _, _, _, _, rfl, _⟩ := h; rfl)
      | (obtain ⟨_, _, _, _, _, _, _, _, _, _, _, _, _, _, _, _, _, _, rfl, _⟩ := h; rfl)
      | (obtain ⟨_, _, _, _, _, _, _, _, _, _, _, _, _, _, _, _, _, _, _, rfl, _⟩ := h; rfl)
  · obtain ⟨d, es, c, n, rfl, hd, hme, nd, l7, n1, hc, k⟩ := h
    have ndf : ∀ e ∈ es, e.2.1 ≠ d ∧ e.2.2 ≠ d := fun e he => by
      obtain ⟨dx, h1, vs, h2, _⟩ := hme e he
      refine ⟨fun z => ?_, fun z => ?_⟩
      · rw [z, hd] at h1
        cases h1
      · rw [z, hd] at h2
        cases h2
    have fb : ∀ i, ((es.take i).flatMap fun e => endsR (rle (c e.1))).length ≤ 168 := fun i => by
      have := flat_le (f := fun e : Int × Addr × Addr => endsR (rle (c e.1))) (n := 24) (l := es.take i) fun e he => by
        rw [endsR_len]
        exact (hc e (List.mem_of_mem_take he)).2
      have l2 : (es.take i).length ≤ 7 := by rw [List.length_take]; omega
      omega
    have cl_Memory := T.cl_Memory
    have na_Memory_pairs := T.na_Memory_pairs
    have na_Memory_wide := T.na_Memory_wide
    refine ⟨_, (pss_cons (ps_set (i := 1) sc_columns.nd rfl (Or.inr rfl) (pe_callB (k_sortSetI (w := w) rfl rfl) (by rfl) T.n_sorted (by decide +kernel) (pa_cons (pe_callTy (k_setL (K := K) (w := w) rfl rfl rfl) (by rfl) T.n_set (by decide +kernel) (pa_cons (pe_lock (pe_lc2 (own := [("memory", 7), ("end", 6)]) (vs1 := [6]) (g := (gName 7)) (g1 := (gName 6)) (tt := tYes) (tt1 := tYes) rfl sc_columns.nd (pi_values (pv 0)) (blkOk_by (own := [("memory", 7), ("end", 6)]) (N := ["memories", "ends", "spreads", "found", "at", "begin", "end", "memory", "world", "row"]) (sc := defScope s_columns) (by decide +kernel)) (by decide) (fun _ _ _ _ _ => (pg_name (i := 7) sc_columns.nd rfl (Or.inl rfl))) (fun _ _ _ _ _ => pts_nil) (fun _ _ _ _ _ => (k_plist (K := K) rfl (d1 (ok_ends_of T) (hr.mono (by decide)) (by rfl) T.m_ends_of T.F_ends_of.kp T.b_ends_of passL (pa_cons (pv 7) pa_nil)))) (fun _ _ _ _ _ => (pg_name (i := 6) sc_columns.nd rfl (Or.inl rfl))) (fun _ _ _ _ _ => pts_nil) (fun _ _ _ _ _ => (pv 6)))) pa_nil)) pa_nil)))
      (pss_cons (ps_lock (ps_setDc (i := 2) (own := [("world", 8), ("memory", 7)]) (g := (gTup K 2 (gCons (gName 8) (gCons (gName 7) gNil)))) (tt := tYes) rfl sc_columns.nd rfl rfl (sw_trueD rfl rfl rfl (by decide +kernel)) (pi_items (pv 0)) (blkOk_by (own := [("world", 8), ("memory", 7)]) (N := ["memories", "ends", "spreads", "found", "at", "begin", "end", "memory", "world", "row"]) (sc := defScope s_columns) (by decide +kernel)) (fun _ _ _ _ _ => (k_gtup (K := K) 2 rfl rfl (pgs_cons (pg_name (i := 8) sc_columns.nd rfl (Or.inl rfl)) (pgs_cons (pg_name (i := 7) sc_columns.nd rfl (Or.inl rfl)) pgs_nil)))) (fun _ _ _ _ _ => pts_nil) (fun _ _ _ _ _ => (pv 8)) (fun _ _ _ _ _ => (d1 (ok_spread T) (hr.mono (by decide)) (by rfl) T.m_spread T.F_spread.kp T.b_spread passL (pa_cons (pv 7) (pa_cons (pv 1) pa_nil))))))
      (pss_cons (ps_set (i := 3) sc_columns.nd rfl (Or.inl rfl) (pe_lst pa_nil))
      (pss_cons (ps_forEZ (K := K) rfl (passes_of rfl) rfl (by rfl) T.n_enumerate (by rfl) T.n_zip (pa_cons (pe_op (k_add (K := K) rfl) (pe_lst (pa_cons pe_int pa_nil)) (pv 1)) (pa_cons (pv 1) pa_nil)) (k_gtup (K := K) 2 rfl rfl (pgs_cons (pg_name (i := 4) sc_columns.nd rfl (Or.inr rfl)) (pgs_cons (k_gtup (K := K) 2 rfl rfl (pgs_cons (pg_name (i := 5) sc_columns.nd rfl (Or.inl rfl)) (pgs_cons (pg_name (i := 6) sc_columns.nd rfl (Or.inl rfl)) pgs_nil))) pgs_nil)))
      (pss_one (ps_expr (pe_bm PySem.F.plainAttrs_list PySem.F.slot_list_append PySem.F.type_list_append mt_append (pv 3) (pa_cons (pe_tup (pa_cons (pe_op op_sub (pv 6) (pv 5)) (pa_cons (pe_lock (pe_dc (own := [("world", 8), ("row", 9)]) (g := (gTup K 2 (gCons (gName 8) (gCons (gName 9) gNil)))) (tt := tYes) rfl sc_columns.nd (pi_items (pv 2)) (blkOk_by (own := [("world", 8), ("row", 9)]) (N := ["memories", "ends", "spreads", "found", "at", "begin", "end", "memory", "world", "row"]) (sc := defScope s_columns) (by decide +kernel)) (fun _ _ _ _ _ => (k_gtup (K := K) 2 rfl rfl (pgs_cons (pg_name (i := 8) sc_columns.nd rfl (Or.inl rfl)) (pgs_cons (pg_name (i := 9) sc_columns.nd rfl (Or.inl rfl)) pgs_nil)))) (fun _ _ _ _ _ => pts_nil) (fun _ _ _ _ _ => (pv 8)) (fun _ _ _ _ _ => (pe_ix (k_ix (K := K) rfl) (pv 9) (pv 4) (fun _ _ => rfl))))) pa_nil))) pa_nil)))))
      (pss_one (ps_ret (pv 3))))))), ?_⟩
    dsimp only [cxOf, st_1, st_2, st_3, st_4, st_5, st_6, List.length_cons, List.length_nil, List.replicate_succ, List.replicate_zero, Nat.reduceAdd, Nat.reduceSub]
    walk_at "gs"
    refine i_lockE hd fun od => ?_
    obtain ⟨HF, eF⟩ : ∃ HF, HF = upd H d (.frz od (.dK (es.map kM))) := ⟨_, rfl⟩
    have kF : Kp [d] H HF := by rw [eF]; exact kp_set hd (fun z => z)
    have hF : HF d = some (.frz od (.dK (es.map kM))) := by rw [eF]; exact upd_same
    have mF : ∀ e ∈ es, MemL K T.c_Memory HF e.2.1 e.2.2 (c e.1) := fun e he => (hme e he).kp kF (not_one (ndf e he).1) (not_one (ndf e he).2)
    rw [← eF]
    walk_at "gs"
    refine i_valG2 hF (fun R i H' => Kp [] HF H' ∧ H' R = some (.lst (((es.take i).flatMap fun e => endsR (rle (c e.1))).map V.int))) ?_ ?_ ?_ ?_
    · intro R fR
      exact ⟨Kp.new fR, upd_same⟩
    · rintro R i H' fR ⟨kk, _⟩
      exact kk.at_ _ _ hF not_nil
    · rintro R i ky v H' fR hy ⟨kk, hR⟩
      obtain ⟨e, he, ev⟩ := map_get hy
      cases ev
      have hem := List.mem_of_getElem? he
      have M := ((mF e hem).kp kk not_nil not_nil).mem
      obtain ⟨hc1, hc2⟩ := hc e hem
      have fbi := fb i
      have fbj := fb (i + 1)
      have step : ((es.take (i + 1)).flatMap fun e => endsR (rle (c e.1))) = ((es.take i).flatMap fun e => endsR (rle (c e.1))) ++ endsR (rle (c e.1)) := by
        rw [List.take_add_one, he, List.flatMap_append]
        congr 1
        show List.flatMap _ [e] = _
        rw [List.flatMap_cons, List.flatMap_nil, List.append_nil]
      rw [step, List.length_append] at fbj
      rw [step]
      obtain ⟨pre, epre⟩ : ∃ pre, pre = (es.take i).flatMap fun e => endsR (rle (c e.1)) := ⟨_, rfl⟩
      rw [← epre] at hR fbi fbj ⊢
      walk_at "gs"
      refine i_in2L ?_
      walk_at "gs"
      refine ⟨e.2.1, c e.1, rfl, M, by omega, fun R2 H2 fR2 k2 hR2 => ?_⟩
      have hRR := k2.at_ _ _ hR not_nil
      have nRR : R2 ≠ R := Ne.symm (fr_ne hR fR2)
      walk_at "gs"
      refine i_inL (SqL.of hR2) (fun j H' => Kp [] HF H' ∧ H' R2 = some (.lst ((endsR (rle (c e.1))).map V.int)) ∧ H' R = some (.lst ((pre ++ (endsR (rle (c e.1))).take j).map V.int))) ?_ ?_ ?_ ?_
      · exact ⟨Kp.trans kk k2, hR2, by rw [List.take_zero, List.append_nil]; exact hRR⟩
      · rintro j H3 _ ⟨_, h3, _⟩
        exact SqL.of h3
      · rintro j x H3 hx ⟨k3, h3, hRj⟩
        obtain ⟨z, hz, ez⟩ := map_get hx
        cases ez
        walk_at "gs"
        refine ⟨_, hRj, small_sz (by rw [List.length_map, List.length_append, List.length_take]; omega), Kp.upd k3 fR, ?_, ?_⟩
        · rw [upd_ne nRR]
          exact h3
        · have es2 : pre ++ (endsR (rle (c e.1))).take (j + 1) = (pre ++ (endsR (rle (c e.1))).take j) ++ [z] := by
            rw [List.take_add_one, hz, List.append_assoc]
            rfl
          rw [snoc_int, ← es2]
          exact upd_same
      · rintro H3 ⟨k3, h3, hRj⟩
        rw [List.length_map, List.take_length] at hRj
        exact ⟨k3, hRj⟩
    rintro L H3 fL ⟨k3, hL⟩
    rw [List.length_map, List.take_length] at hL
    rw [eF] at fL k3
    obtain ⟨nLd, fL0⟩ := fr_frz hd fL
    refine ⟨k3.at_ _ _ upd_same not_nil, ?_⟩
    have k4 : Kp [] H (upd H3 d (.dK (es.map kM))) := kp_unl hd (fun z => z) k3
    have hL4 : (upd H3 d (.dK (es.map kM))) L = some (.lst ((es.flatMap fun e => endsR (rle (c e.1))).map V.int)) := upd_nn (o := HO.dK (es.map kM)) nLd hL
    have fbe := fb es.length
    rw [List.take_length] at fbe
    obtain ⟨H4, e4⟩ : ∃ H4, H4 = upd H3 d (.dK (es.map kM)) := ⟨_, rfl⟩
    rw [← e4] at k4 hL4 ⊢
    obtain ⟨ns, ens⟩ : ∃ ns, ns = es.flatMap fun e => endsR (rle (c e.1)) := ⟨_, rfl⟩
    rw [← ens] at hL4 fbe
    walk_at "gs"
    refine ⟨L, ns, rfl, SqL.of hL4, by omega, fun p cc fp hcc => ?_⟩
    have kp5 : Kp [] H4 (upd H4 p (L2.SetO w p (fun j => decide (j ∈ ns)) cc)) := Kp.new fp
    walk_at "gs"
    refine ⟨p, _, cc, rfl, upd_same, by omega, fun E q pw mem fq => ?_⟩
    obtain ⟨H5, e5⟩ : ∃ H5, H5 = upd H4 p (L2.SetO w p (fun j => decide (j ∈ ns)) cc) := ⟨_, rfl⟩
    rw [← e5] at kp5 fq ⊢
    have kq : Kp [] H5 (upd H5 q (.lst (E.map V.int))) := Kp.new fq
    have hq6 : (upd H5 q (.lst (E.map V.int))) q = some (.lst (E.map V.int)) := upd_same
    have k6 : Kp [] H (upd H5 q (.lst (E.map V.int))) := Kp.trans (Kp.trans k4 kp5) kq
    obtain ⟨H6, e6⟩ : ∃ H6, H6 = upd H5 q (.lst (E.map V.int)) := ⟨_, rfl⟩
    rw [← e6] at kq hq6 k6 ⊢
    have ea : EAll c (es.map (·.1)) E := ⟨pw, fun x => by
      rw [mem, decide_eq_true_eq, ens, List.mem_flatMap]
      constructor
      · rintro ⟨e, he, hx⟩
        exact ⟨e.1, List.mem_map.mpr ⟨e, he, rfl⟩, hx⟩
      · rintro ⟨u, hu, hx⟩
        obtain ⟨e, he, rfl⟩ := List.mem_map.mp hu
        exact ⟨e, he, hx⟩⟩
    have lE : E.length ≤ 168 := Nat.le_trans (sub_len (pw.imp fun {a b} lt e => by omega) fun x hx => by
      have := (mem x).mp hx
      rw [decide_eq_true_eq] at this
      exact this) fbe
    have ok : ∀ e ∈ es, EOk (c e.1) E := fun e he => ea.ok (n := n) (fun u hu => by
      obtain ⟨e, he, rfl⟩ := List.mem_map.mp hu
      exact (hc e he).1) (List.mem_map.mpr ⟨e, he, rfl⟩)
    have hd6 := k6.at_ _ _ hd not_nil
    have m6 : ∀ e ∈ es, MemL K T.c_Memory H6 e.2.1 e.2.2 (c e.1) := fun e he => (hme e he).kp k6 not_nil not_nil
    have nqd : q ≠ d := fun e => by rw [e, hd6] at hq6; cases hq6
    walk_at "gs"
    refine i_lockS hd6 fun od2 => ?_
    obtain ⟨HG, eG⟩ : ∃ HG, HG = upd H6 d (.frz od2 (.dK (es.map kM))) := ⟨_, rfl⟩
    have kG : Kp [d] H6 HG := by rw [eG]; exact kp_set hd6 (fun z => z)
    have hG : HG d = some (.frz od2 (.dK (es.map kM))) := by rw [eG]; exact upd_same
    have hqG := kG.at_ _ _ hq6 (not_one nqd)
    have mG : ∀ e ∈ es, MemL K T.c_Memory HG e.2.1 e.2.2 (c e.1) := fun e he => (m6 e he).kp kG (not_one (ndf e he).1) (not_one (ndf e he).2)
    rw [← eG]
    walk_at "gs"
    refine i_dpairG hG (fun R i H' => Kp [] HG H' ∧ ∃ rep : List (Int × Addr), rep.map (·.1) = (es.take i).map (·.1) ∧ H' R = some (.dK (rep.map kA)) ∧ ∀ r ∈ rep, H' r.2 = some (.lst ((spr c E r.1).map V.int))) ?_ ?_ ?_ ?_
    · intro R fR
      exact ⟨Kp.new fR, [], rfl, upd_same, fun r hr => nomatch hr⟩
    · rintro R i H' fR ⟨kk, _⟩
      exact kk.at_ _ _ hG not_nil
    · rintro R i ky v U H' fR hy ⟨kk, rep, hrep, hR, hrr⟩ fU
      obtain ⟨e, he, ev⟩ := map_get hy
      cases ev
      have hem := List.mem_of_getElem? he
      have hil := (List.getElem?_eq_some_iff.mp he).1
      obtain ⟨hc1, hc2⟩ := hc e hem
      show gTup K 2 _ (.ref U) _ (upd H' U (.tup [V.int e.1, V.ref e.2.1])) _
      have kU : Kp [] H' (upd H' U (.tup [V.int e.1, V.ref e.2.1])) := Kp.new fU
      have hU : SqT K (upd H' U (.tup [V.int e.1, V.ref e.2.1])) U [V.int e.1, V.ref e.2.1] := SqT.of upd_same
      have kk2 := Kp.trans kk kU
      have hR2 := kU.at_ _ _ hR not_nil
      have M := ((mG e hem).kp kk2 not_nil not_nil).mem
      have hq2 := kk2.at_ _ _ hqG not_nil
      have lrep : rep.length ≤ 7 := by
        have := congrArg List.length hrep
        rw [List.length_map, List.length_map, List.length_take] at this
        omega
      obtain ⟨H2, e2⟩ : ∃ H2, H2 = upd H' U (.tup [V.int e.1, V.ref e.2.1]) := ⟨_, rfl⟩
      have hrr2 : ∀ r ∈ rep, H2 r.2 = some (.lst ((spr c E r.1).map V.int)) := fun r hr => by rw [e2]; exact kU.at_ _ _ (hrr r hr) not_nil
      rw [← e2] at kU hU kk2 hR2 M hq2 ⊢
      walk_at "gs"
      refine ⟨e.2.1, q, c e.1, E, rfl, M, by omega, by omega, hq2, by omega, ok e hem, fun S H3 fS k3 hS => ?_⟩
      have nSR : S ≠ R := Ne.symm (fr_ne hR2 fS)
      have hR3 := k3.at_ _ _ hR2 not_nil
      walk_at "gs"
      have nw : e.1 ∉ rep.map (·.1) := by
        rw [hrep, List.map_take]
        exact nin_take nd (by rw [List.getElem?_map, he]; rfl)
      refine ⟨rep.map kA, .inl e.1, rfl, hR3, small_sz (by rw [List.length_map]; omega), Kp.upd (Kp.trans kk2 k3) fR, rep ++ [(e.1, S)], ?_, ?_, fun r hr => ?_⟩
      · rw [List.map_append, hrep, List.take_add_one, he, List.map_append]
        rfl
      · rw [put_new nw]
        exact upd_same
      · rcases List.mem_append.mp hr with h | h
        · have nrR : r.2 ≠ R := fun z => by
            have := hrr r h
            rw [z, hR] at this
            cases this
          rw [upd_ne nrR]
          exact k3.at_ _ _ (hrr2 r h) not_nil
        · rw [List.mem_singleton.mp h]
          show upd H3 R _ S = _
          rw [upd_ne nSR]
          exact hS
    rintro W H7 fW ⟨k7, rep, hrep, hW, hrr⟩
    rw [eG] at fW k7
    obtain ⟨nWd, fW0⟩ := fr_frz hd6 fW
    walk_at "gs"
    refine ⟨k7.at_ _ _ upd_same not_nil, ?_⟩
    have hW8 : (upd H7 d (.dK (es.map kM))) W = some (.dK (rep.map kA)) := upd_nn (o := HO.dK (es.map kM)) nWd hW
    have k8 : Kp [] H6 (upd H7 d (.dK (es.map kM))) := kp_unl hd6 (fun z => z) k7
    have hq8 := k8.at_ _ _ hq6 not_nil
    have nqW : q ≠ W := fr_ne hq6 fW0
    have hrr8 : ∀ r ∈ rep, (upd H7 d (.dK (es.map kM))) r.2 = some (.lst ((spr c E r.1).map V.int)) := fun r hr => by
      have nrd : r.2 ≠ d := fun z => by
        have := hrr r hr
        rw [z, k7.at_ _ _ upd_same not_nil] at this
        cases this
      rw [upd_ne nrd]
      exact hrr r hr
    rw [List.length_map, List.take_length] at hrep
    have k08 : Kp [] H (upd H7 d (.dK (es.map kM))) := Kp.trans k6 k8
    obtain ⟨H8, e8⟩ : ∃ H8, H8 = upd H7 d (.dK (es.map kM)) := ⟨_, rfl⟩
    rw [← e8] at hW8 k8 hq8 hrr8 k08 ⊢
    walk_at "gs"
    refine i_new fun F fF => ?_
    have kFn : Kp [] H8 (upd H8 F (.lst [])) := Kp.new fF
    have hF9 : (upd H8 F (.lst [])) F = some (.lst []) := upd_same
    have hW9 := kFn.at_ _ _ hW8 not_nil
    have hq9 := kFn.at_ _ _ hq8 not_nil
    have nWF : W ≠ F := fr_ne hW8 fF
    have nqF : q ≠ F := fr_ne hq8 fF
    have hrr9 : ∀ r ∈ rep, (upd H8 F (.lst [])) r.2 = some (.lst ((spr c E r.1).map V.int)) := fun r hr => kFn.at_ _ _ (hrr8 r hr) not_nil
    obtain ⟨H9, e9⟩ : ∃ H9, H9 = upd H8 F (.lst []) := ⟨_, rfl⟩
    rw [← e9] at kFn hF9 hW9 hq9 hrr9 ⊢
    have fFH : Fr H F := k08.free fF
    walk_at "gs"
    refine i_new fun Z fZ => ?_
    have kZ : Kp [] H9 (upd H9 Z (.lst [V.int 0])) := Kp.new fZ
    have hq10 := kZ.at_ _ _ hq9 not_nil
    walk_at "gs"
    refine i_new fun Y fY => ?_
    have kY : Kp [] (upd H9 Z (.lst [V.int 0])) (upd (upd H9 Z (.lst [V.int 0])) Y (.lst ([V.int 0] ++ E.map V.int))) := Kp.new fY
    have hY : (upd (upd H9 Z (.lst [V.int 0])) Y (.lst ([V.int 0] ++ E.map V.int))) Y = some (.lst ((0 :: E).map V.int)) := upd_same
    have k11 := Kp.trans kZ kY
    have hq11 := kY.at_ _ _ hq10 not_nil
    have hF11 := k11.at_ _ _ hF9 not_nil
    have hW11 := k11.at_ _ _ hW9 not_nil
    have hrr11 : ∀ r ∈ rep, (upd (upd H9 Z (.lst [V.int 0])) Y (.lst ([V.int 0] ++ E.map V.int))) r.2 = some (.lst ((spr c E r.1).map V.int)) := fun r hr => k11.at_ _ _ (hrr9 r hr) not_nil
    have nYF : Y ≠ F := Ne.symm (fr_ne (kZ.at_ _ _ hF9 not_nil) fY)
    obtain ⟨H11, e11⟩ : ∃ H11, H11 = upd (upd H9 Z (.lst [V.int 0])) Y (.lst ([V.int 0] ++ E.map V.int)) := ⟨_, rfl⟩
    rw [← e11] at k11 hY hq11 hF11 hW11 hrr11 ⊢
    have nrF : ∀ r ∈ rep, r.2 ≠ F := fun r hr => fr_ne (hrr8 r hr) fF
    have lrep : rep.length ≤ 7 := by
      have := congrArg List.length hrep
      rw [List.length_map, List.length_map] at this
      omega
    have ndr : (rep.map (·.1)).Nodup := by rw [hrep]; exact nd
    walk_at "gs"
    refine ⟨Y, q, _, _, rfl, SqL.of hY, SqL.of hq11, fun i σ H' => ∃ (o4 o5 o6 o7 o8 o9 : Option V) (xs : List V), σ = [some (.ref d), some (.ref q), some (.ref W), some (.ref F), o4, o5, o6, o7, o8, o9] ∧ Kp [F] H11 H' ∧ H' F = some (.lst xs) ∧ ColVs H' xs ((colsOf c (es.map (·.1)) E).take i) ∧ DsOk H H' xs, ?_, ?_, ?_, ?_⟩
    · exact ⟨_, _, _, _, _, _, [], rfl, Kp.refl, hF11, trivial, DsOk.nil⟩
    · rintro i σ H' ⟨_, _, _, _, _, _, _, _, kk, _⟩
      exact ⟨SqL.of (kk.at_ _ _ hY (not_one nYF)), SqL.of (kk.at_ _ _ hq11 (not_one nqF))⟩
    · rintro i x y U T σ H' hx hy ⟨o4, o5, o6, o7, o8, o9, xs, rfl, kk, hFi, cv, dso⟩ fU fT nUT
      obtain ⟨b, hb, eb⟩ := map_get hx
      cases eb
      obtain ⟨e, he, ee⟩ := map_get hy
      cases ee
      have k1 : Kp [] H' (upd H' U (.tup [V.int b, V.int e])) := Kp.new fU
      have fT2 : Fr (upd H' U (.tup [V.int b, V.int e])) T := ⟨upd_nn (Ne.symm nUT) fT.e⟩
      have k2 : Kp [] (upd H' U (.tup [V.int b, V.int e])) (ez5 H' U T i (V.int b) (V.int e)) := Kp.new fT2
      have hT : SqT K (ez5 H' U T i (V.int b) (V.int e)) T [.int (i : Nat), .ref U] := SqT.of upd_same
      have hU : SqT K (ez5 H' U T i (V.int b) (V.int e)) U [V.int b, V.int e] := SqT.of (k2.fix _ _ upd_same trivial)
      have k12 := Kp.trans k1 k2
      have hF2 := k12.at_ _ _ hFi not_nil
      have cv2 := cv.kp k12
      have dso2 := dso.kp k12
      have kk2 := Kp.trans kk k12.wide
      have hW2 := kk2.at_ _ _ hW11 (not_one nWF)
      have hrr2 : ∀ r ∈ rep, (ez5 H' U T i (V.int b) (V.int e)) r.2 = some (.lst ((spr c E r.1).map V.int)) := fun r hr => kk2.at_ _ _ (hrr11 r hr) (not_one (nrF r hr))
      obtain ⟨G, eG⟩ : ∃ G, G = ez5 H' U T i (V.int b) (V.int e) := ⟨_, rfl⟩
      rw [← eG] at hT hU k12 hF2 cv2 dso2 kk2 hW2 hrr2 ⊢
      walk_at "gs"
      refine i_lockE hW2 fun od3 => ?_
      obtain ⟨HJ, eJ⟩ : ∃ HJ, HJ = upd G W (.frz od3 (.dK (rep.map kA))) := ⟨_, rfl⟩
      have kJ : Kp [W] G HJ := by rw [eJ]; exact kp_set hW2 (fun z => z)
      have hJ : HJ W = some (.frz od3 (.dK (rep.map kA))) := by rw [eJ]; exact upd_same
      have hrrJ : ∀ r ∈ rep, HJ r.2 = some (.lst ((spr c E r.1).map V.int)) := fun r hr => kJ.at_ _ _ (hrr2 r hr) (not_one fun z => by
        have := hrr2 r hr
        rw [z, hW2] at this
        cases this)
      rw [← eJ]
      walk_at "gs"
      refine i_dpairG hJ (fun R j G' => Kp [] HJ G' ∧ G' R = some (.dK (((rep.take j).map fun r => (r.1, (c r.1).getD (e - 1).toNat 0)).map kN))) ?_ ?_ ?_ ?_
      · intro R fR
        exact ⟨Kp.new fR, upd_same⟩
      · rintro R j G' fR ⟨k3, _⟩
        exact k3.at_ _ _ hJ not_nil
      · rintro R j ky v S G' fR hyr ⟨k3, hR⟩ fS
        obtain ⟨r, hr, er⟩ := map_get hyr
        cases er
        have hrm := List.mem_of_getElem? hr
        have kS : Kp [] G' (upd G' S (.tup [V.int r.1, V.ref r.2])) := Kp.new fS
        have hS : SqT K (upd G' S (.tup [V.int r.1, V.ref r.2])) S [V.int r.1, V.ref r.2] := SqT.of upd_same
        have hR3 := kS.at_ _ _ hR not_nil
        have k4 := Kp.trans k3 kS
        have hr3 := k4.at_ _ _ (hrrJ r hrm) not_nil
        show gTup K 2 _ (.ref S) _ (upd G' S (.tup [V.int r.1, V.ref r.2])) _
        obtain ⟨G3, e3⟩ : ∃ G3, G3 = upd G' S (.tup [V.int r.1, V.ref r.2]) := ⟨_, rfl⟩
        rw [← e3] at kS hS hR3 k4 hr3 ⊢
        walk_at "gs"
        have hv : ((spr c E r.1).map V.int)[i]? = some (.int ((c r.1).getD (e - 1).toNat 0)) := by
          unfold spr
          rw [List.getElem?_map, List.getElem?_map, he]
          rfl
        refine i_ixL (SqL.of hr3) (atI_nat hv) ?_
        have nw : r.1 ∉ ((rep.take j).map fun r => (r.1, (c r.1).getD (e - 1).toNat 0)).map (·.1) := by
          rw [List.map_map]
          have : (rep.take j).map ((fun x : Int × Int => x.1) ∘ fun r => (r.1, (c r.1).getD (e - 1).toNat 0)) = (rep.map (·.1)).take j := by
            rw [← List.map_take]
            rfl
          rw [this]
          exact nin_take ndr (by rw [List.getElem?_map, hr]; rfl)
        have es2 : (rep.take (j + 1)).map (fun r => (r.1, (c r.1).getD (e - 1).toNat 0)) = (rep.take j).map (fun r => (r.1, (c r.1).getD (e - 1).toNat 0)) ++ [(r.1, (c r.1).getD (e - 1).toNat 0)] := by
          rw [List.take_add_one, hr, List.map_append]
          rfl
        refine ⟨_, .inl r.1, rfl, hR3, small_sz (by rw [List.length_map, List.length_map, List.length_take]; omega), Kp.upd k4 fR, ?_⟩
        rw [put_kNc nw, es2]
        exact upd_same
      rintro R G4 fR ⟨k4, hR⟩
      rw [List.length_map, List.take_length] at hR
      rw [eJ] at fR k4
      obtain ⟨nRW, fR0⟩ := fr_frz hW2 fR
      refine ⟨k4.at_ _ _ upd_same not_nil, ?_⟩
      have k5 : Kp [] G (upd G4 W (.dK (rep.map kA))) := kp_unl hW2 (fun z => z) k4
      have hR5 := upd_nn (o := HO.dK (rep.map kA)) nRW hR
      obtain ⟨G5, e5⟩ : ∃ G5, G5 = upd G4 W (.dK (rep.map kA)) := ⟨_, rfl⟩
      rw [← e5] at k5 hR5 ⊢
      walk_at "gs"
      refine i_new fun P fP => ?_
      have kP : Kp [] G5 (upd G5 P (.tup [V.int (e - b), V.ref R])) := Kp.new fP
      have hF6 := kP.at_ _ _ (k5.at_ _ _ hF2 not_nil) not_nil
      have hP6 : (upd G5 P (.tup [V.int (e - b), V.ref R])) P = some (.tup [V.int (e - b), V.ref R]) := upd_same
      have hR6 := kP.at_ _ _ hR5 not_nil
      have cv6 := (cv2.kp k5).kp kP
      have k56 := Kp.trans k5 kP
      obtain ⟨G6, e6⟩ : ∃ G6, G6 = upd G5 P (.tup [V.int (e - b), V.ref R]) := ⟨_, rfl⟩
      rw [← e6] at kP hF6 hP6 hR6 cv6 k56 ⊢
      have lx := cv6.len
      rw [List.length_take] at lx
      have il := (List.getElem?_eq_some_iff.mp he).1
      walk_at "gs"
      have kL : Kp [F] G6 (upd G6 F (.lst (xs ++ [V.ref P]))) := kp_set hF6 (fun z => z)
      have nPF : P ≠ F := fun z => by
        rw [z, hF6] at hP6
        cases hP6
      have nRF : R ≠ F := fun z => by
        rw [z, hF6] at hR6
        cases hR6
      have ecol : (rep.map fun r => (r.1, (c r.1).getD (e - 1).toNat 0)) = colN c (es.map (·.1)) b := by
        unfold colN
        rw [← hrep, List.map_map]
        refine List.map_congr_left fun r hr => ?_
        have hre : r.1 ∈ es.map (·.1) := by
          rw [← hrep]
          exact List.mem_map.mpr ⟨r, hr, rfl⟩
        obtain ⟨e', he', ee⟩ := List.mem_map.mp hre
        have ok' := ok e' he'
        obtain ⟨b0, be⟩ := ok'.lt hb he
        have z := ok'.same hb he (x := e - 1) (by omega) (by omega)
        rw [ee] at z
        show (r.1, (c r.1).getD (e - 1).toNat 0) = (r.1, (c r.1).getD b.toNat 0)
        rw [List.getD_eq_getElem?_getD, z]
        rfl
      rw [ecol] at hR6
      refine ⟨fx_kp kL (fx_kp k56 fx_refl), _, _, _, _, _, _, xs ++ [.ref P], rfl, Kp.trans kk2 (Kp.trans k56.wide kL), upd_same, ?_⟩
      rw [List.take_add_one, colsOf_get hb he]
      have fRH : Fr H R := (Kp.trans (Kp.trans k08 (Kp.trans kFn k11)).wide kk2).free fR0
      refine ⟨?_, dso2.snoc fR0 fRH (Kp.trans k56.wide kL) (v := .int (e - b)) (d := R) (by rw [upd_ne nPF]; exact hP6) (tr_kp kL (tr_of hR6))⟩
      exact ColVs.snoc (q := (e - b, colN c (es.map (·.1)) b)) (by rw [upd_ne nPF]; exact hP6) (by rw [upd_ne nRF]; exact hR6) (cv6.kl kL hF6)
    rintro σ H' ⟨o4, o5, o6, o7, o8, o9, xs, rfl, kk, hF', cv, dso⟩
    have em : min (List.map V.int (0 :: E)).length (List.map V.int E).length = (colsOf c (es.map (·.1)) E).length := by
      rw [colsOf_len, List.length_map, List.length_map, List.length_cons]
      omega
    rw [em, List.take_length] at cv
    walk_at "gs"
    exact k F E xs H' ea cv dso fFH (Kp.drop (Kp.trans (Kp.trans k08 (Kp.trans kFn k11)).wide kk) fFH) hF' lE

theorem colN_keys {c : Int → List Int} {liv : List Int} {b : Int} : (colN c liv b).map (·.1) = liv := by
  unfold colN
  rw [List.map_map]
  exact List.map_id _
theorem PrsAt.unfz {H : Hp} {d : Addr} {ob : Obj} {u o : HO} (h : H d = some (.frz ob u)) : ∀ {xs : List V} {ps : List (Int × Int)}, PrsAt H xs ps → PrsAt (upd H d o) xs ps
  | [], [], _ => trivial
  | _ :: _, _ :: _, ⟨⟨t, e, h1⟩, r⟩ => ⟨⟨t, e, upd_nn (fun z => by rw [z, h] at h1; cases h1) h1⟩, PrsAt.unfz h r⟩
  | [], _ :: _, x => x.elim
  | _ :: _, [], x => x.elim
theorem cut_head {cs : List Int} {b e : Int} (b0 : 0 ≤ b) (lt : b < e) (le : e ≤ cs.length) : ∃ q qs, cut b e (rle cs) = q :: qs ∧ q.2 = cs.getD b.toNat 0 := by
  have h := cut_rle (b := b) (e := e) (cs := cs)
  have v : ((cs.drop b.toNat).take (e.toNat - b.toNat))[0]? = some (cs.getD b.toNat 0) := by
    rw [List.getElem?_take_of_lt (by omega), List.getElem?_drop, Nat.add_zero, List.getD_eq_getElem?_getD, List.getElem?_eq_getElem (by omega)]
    rfl
  rw [← h] at v
  cases ec : cut b e (rle cs) with
  | nil =>
    rw [ec] at v
    cases v
  | cons q qs =>
    refine ⟨q, qs, rfl, ?_⟩
    have q0 : 0 < q.1 := cutF_pos b e 0 (rle cs) q (by
      show q ∈ cut b e (rle cs)
      rw [ec]
      exact List.mem_cons_self)
    rw [ec] at v
    have e2 : cells (q :: qs) = List.replicate q.1.toNat q.2 ++ cells qs := rfl
    rw [e2, List.getElem?_append_left (by rw [List.length_replicate]; omega), List.getElem?_replicate, if_pos (by omega)] at v
    injection v
def sp_lcolumns (K : PySem.W.Frag) : Sp := fun vs H Q _ => ∃ (md R : Addr) (kv : List (Key × V)) (rw : List (Int × Addr)) (n : Int) (c : Int → List Int), vs = [.ref md] ∧ H md = some (.dK kv) ∧ valV kv (.inr "rows") = some (.ref R) ∧ md ≠ R ∧ H R = some (.dK (rw.map kA)) ∧ (∀ q ∈ rw, LD K H q.2 ((rle (c q.1)).map d2) ∧ q.2 ≠ R) ∧ (rw.map (·.1)).Nodup ∧ rw.length ≤ 7 ∧ 1 ≤ n ∧ (∀ q ∈ rw, ((c q.1).length : Int) = n ∧ (rle (c q.1)).length ≤ 24) ∧
  ∀ G (E : List Int) xs H', EAll c (rw.map (·.1)) E → ColVs H' xs (colsOf c (rw.map (·.1)) E) → DsOk H H' xs → Fr H G → Kp [] H H' → H' G = some (.lst xs) → E.length ≤ 168 → Q (.ref G) H'
theorem sc_law_columns : FnScope ["_law_model", "_law_stops", "_law_row_here", "_law_here", "_law_many", "_law_number_here", "_law_found", "_law_begin", "_law_stop", "_law_numbers", "_law_being"] ["_law_model"] (defScope s_law_columns) :=
  ⟨rfl, rfl, rfl, by decide +kernel, rfl, by decide +kernel, by decide +kernel⟩
theorem ok_law_columns {P : Program} {w : World} {K : PySem.W.Frag} {mg : Str → Option Value} {base : Heap} (T : Txt K mg) :
    FnG P w K mg base 2 T.a_law_columns T.d_law_columns ["_law_model"] (sp_lcolumns K) := by
  refine okD T.F_law_columns sc_law_columns (fun vs H Q E h => ?_) (fun cdv A outer s H vs Q E hr h => ?_)
  · first
      | (obtain ⟨_, rfl, _⟩ := h; rfl)
      | (obtain ⟨_, _, rfl, _⟩ := h; rfl)
      | (obtain ⟨_, _, _, rfl, _⟩ := h; rfl)
      | (obtain ⟨_, _, _, _, rfl, _⟩ := h; rfl)
      | (obtain ⟨_, _, _, _, _, rfl, _⟩ := h; rfl)
      | (obtain ⟨_, _, _, _, _, _, rfl, _⟩ := h; rfl)
      | (obtain ⟨_, _, _, _, _, _, _, rfl, _⟩ := h; rfl)
      | (obtain ⟨_, _, _, _, _, _, _, _, rfl, _⟩ := h; rfl)
      | (obtain ⟨_, _, _, _, _, _, _, _, _, rfl, _⟩ := h; rfl)
      | (obtain ⟨_, _, _, _, _, _, _, _, _, _, rfl, _⟩ := h; rfl)
      | (obtain ⟨_, _, _, _, _, _, _, _, _, _, _, rfl, _⟩ := h; rfl)
      | (obtain ⟨_, _, _, _, _, _, _, _, _, _, _, _, rfl, _⟩ := h; rfl)
      | (obtain ⟨_, _, _, _, _, _, _, _, _, _, _, _, _, rfl, _⟩ := h; rfl)
      | (obtain ⟨_, _, _, _, _, _, _, _, _, _, _, _, _, _, rfl, _⟩ := h; rfl)
      | (obtain ⟨_, _, _, _, _, _, _, _, _, _, _, _, _, _, _, rfl, _⟩ := h; rfl)
      | (obtain ⟨_, _, _, _, _, _, _, _, _, _, _, _, _, _, _, _, rfl, _⟩ := h; rfl)
      | (obtain ⟨_, _, _, _, _, _, _, _, _, _, _, _, _, _, _, _, _, rfl, _⟩ := h; rfl)
      | (obtain ⟨_, _, _, _, _, _, _, _, _, _, _, _, _, _, _, _, _, _, rfl, _⟩ := h; rfl)
      | (obtain ⟨_, _, _, _, _, _, _, _, _, _, _, _, _, _, _, _, _, _, _, rfl, _⟩ := h; rfl)
  · obtain ⟨md, R, kv, rw, n, c, rfl, hm, hkv, nmR, hR, hrr, nl, lrw, n1, hcr, k⟩ := h
    have nrR : ∀ q ∈ rw, q.2 ≠ R := fun q hq => (hrr q hq).2
    obtain ⟨liv, kr⟩ : ∃ liv, rw.map (·.1) = liv := ⟨_, rfl⟩
    rw [kr] at nl k
    have hc : ∀ u ∈ liv, ((c u).length : Int) = n ∧ (rle (c u)).length ≤ 24 := fun u hu => by
      rw [← kr] at hu
      obtain ⟨q, hq, rfl⟩ := List.mem_map.mp hu
      exact hcr q hq
    have fb : ∀ i, ((rw.take i).flatMap fun e => endsR (rle (c e.1))).length ≤ 168 := fun i => by
      have := flat_le (f := fun e : Int × Addr => endsR (rle (c e.1))) (n := 24) (l := rw.take i) fun e he => by
        rw [endsR_len]
        exact (hcr e (List.mem_of_mem_take he)).2
      have l2 : (rw.take i).length ≤ 7 := by rw [List.length_take]; omega
      omega
    have cl_Memory := T.cl_Memory
    have na_Memory_pairs := T.na_Memory_pairs
    have na_Memory_wide := T.na_Memory_wide
    refine ⟨_, (pss_cons (ps_set (i := 1) sc_law_columns.nd rfl (Or.inl rfl) (pe_lst pa_nil))
      (pss_cons (ps_lock (ps_for (passes_of rfl) rfl (pi_values (pe_dget (u1 hr.r.units) (pv 0) pe_str (fun _ _ => rfl))) (pg_name (i := 2) sc_law_columns.nd rfl (Or.inl rfl))
      (pss_cons (ps_set (i := 3) sc_law_columns.nd rfl (Or.inl rfl) pe_int)
      (pss_one (ps_for (passes_of rfl) rfl (k_plist (K := K) rfl (pv 2)) (k_gtup (K := K) 2 rfl rfl (pgs_cons (pg_name (i := 4) sc_law_columns.nd rfl (Or.inl rfl)) (pgs_cons (pg_name (i := 5) sc_law_columns.nd rfl (Or.inl rfl)) pgs_nil)))
      (pss_cons (ps_set (i := 3) sc_law_columns.nd rfl (Or.inl rfl) (pe_op (k_add (K := K) rfl) (pv 3) (pv 4)))
      (pss_one (ps_expr (pe_bm PySem.F.plainAttrs_list PySem.F.slot_list_append PySem.F.type_list_append mt_append (pv 1) (pa_cons (pv 3) pa_nil))))))))))
      (pss_cons (ps_asg (pe_tup (pa_cons (pe_lst pa_nil) (pa_cons pe_int pa_nil))) (k_gtup (K := K) 2 rfl rfl (pgs_cons (pg_name (i := 6) sc_law_columns.nd rfl (Or.inl rfl)) (pgs_cons (pg_name (i := 7) sc_law_columns.nd rfl (Or.inr rfl)) pgs_nil))))
      (pss_cons (ps_for (passes_of rfl) rfl (k_plist (K := K) rfl (pe_callB (k_sortSetI (w := w) rfl rfl) (by rfl) T.n_sorted (by decide +kernel) (pa_cons (pe_callTy (k_setL (K := K) (w := w) rfl rfl rfl) (by rfl) T.n_set (by decide +kernel) (pa_cons (pv 1) pa_nil)) pa_nil))) (pg_name (i := 8) sc_law_columns.nd rfl (Or.inr rfl))
      (pss_cons (ps_set (i := 9) sc_law_columns.nd rfl (Or.inl rfl) (pe_callTy (k_dictP (K := K) rfl rfl) (by rfl) T.n_dict (by decide +kernel) (pa_cons (pe_lock (pe_lc (own := [("_law_being", 10), ("_law_row_here", 2)]) (g := (gTup K 2 (gCons (gName 10) (gCons (gName 2) gNil)))) (tt := tYes) rfl sc_law_columns.nd (pi_items (pe_dget (u1 hr.r.units) (pv 0) pe_str (fun _ _ => rfl))) (blkOk_by (own := [("_law_being", 10), ("_law_row_here", 2)]) (N := ["_law_model", "_law_stops", "_law_row_here", "_law_here", "_law_many", "_law_number_here", "_law_found", "_law_begin", "_law_stop", "_law_numbers", "_law_being"]) (sc := defScope s_law_columns) (by decide +kernel)) (fun _ _ _ _ _ => (k_gtup (K := K) 2 rfl rfl (pgs_cons (pg_name (i := 10) sc_law_columns.nd rfl (Or.inl rfl)) (pgs_cons (pg_name (i := 2) sc_law_columns.nd rfl (Or.inl rfl)) pgs_nil)))) (fun _ _ _ _ _ => pts_nil) (fun _ _ _ _ _ => (pe_tup (pa_cons (pv 10) (pa_cons (pe_ix (k_ix (K := K) rfl) (pe_ix (k_ix (K := K) rfl) (d1 (ok_law_part T) (hr.mono (by decide)) (by rfl) T.m_law_part T.F_law_part.kp T.b_law_part passL (pa_cons (pv 2) (pa_cons (pv 7) (pa_cons (pv 8) pa_nil)))) pe_int (fun _ _ => rfl)) pe_int (fun _ _ => rfl)) pa_nil)))))) pa_nil)))
      (pss_cons (ps_expr (pe_bm PySem.F.plainAttrs_list PySem.F.slot_list_append PySem.F.type_list_append mt_append (pv 6) (pa_cons (pe_tup (pa_cons (pe_op op_sub (pv 8) (pv 7)) (pa_cons (pv 9) pa_nil))) pa_nil)))
      (pss_one (ps_set (i := 7) sc_law_columns.nd rfl (Or.inr rfl) (pv 8))))))
      (pss_one (ps_ret (pv 6))))))), ?_⟩
    dsimp only [cxOf, st_1, st_2, st_3, st_4, st_5, st_6, List.length_cons, List.length_nil, List.replicate_succ, List.replicate_zero, Nat.reduceAdd, Nat.reduceSub]
    walk_at "gs"
    refine i_new fun S fS => ?_
    have kS : Kp [] H (upd H S (.lst [])) := Kp.new fS
    have hS1 : (upd H S (.lst [])) S = some (.lst []) := upd_same
    have hm1 := kS.at_ _ _ hm not_nil
    have hR1 := kS.at_ _ _ hR not_nil
    have nRS : R ≠ S := fr_ne hR fS
    have nmS : md ≠ S := fr_ne hm fS
    have nrS : ∀ q ∈ rw, q.2 ≠ S := fun q hq => fr_tr (tr_ld (hrr q hq).1) fS
    have rr1 : ∀ q ∈ rw, LD K (upd H S (.lst [])) q.2 ((rle (c q.1)).map d2) := fun q hq => (hrr q hq).1.kp kS (imms_d2 _) not_nil
    obtain ⟨H1, e1⟩ : ∃ H1, H1 = upd H S (.lst []) := ⟨_, rfl⟩
    rw [← e1] at kS hS1 hm1 hR1 rr1 ⊢
    walk_at "gs"
    refine i_lockS hR1 fun od => ?_
    obtain ⟨HF, eF⟩ : ∃ HF, HF = upd H1 R (.frz od (.dK (rw.map kA))) := ⟨_, rfl⟩
    have kF : Kp [R] H1 HF := by rw [eF]; exact kp_set hR1 (fun z => z)
    have hF : HF R = some (.frz od (.dK (rw.map kA))) := by rw [eF]; exact upd_same
    have hmF := kF.at_ _ _ hm1 (not_one nmR)
    have hSF := kF.at_ _ _ hS1 (not_one (Ne.symm nRS))
    have rrF : ∀ q ∈ rw, LD K HF q.2 ((rle (c q.1)).map d2) := fun q hq => (rr1 q hq).kp kF (imms_d2 _) (not_one (nrR q hq))
    rw [← eF]
    walk_at "gs"
    refine i_dgS hmF hkv ?_
    walk_at "gs"
    refine i_eachV hF (fun i σ H' => ∃ o2 o3 o4 o5 : Option V, σ = [some (.ref md), some (.ref S), o2, o3, o4, o5, none, none, none, none, none] ∧ Kp [S] HF H' ∧ H' S = some (.lst (((rw.take i).flatMap fun e => endsR (rle (c e.1))).map V.int))) ?_ ?_ ?_ ?_
    · exact ⟨_, _, _, _, rfl, Kp.refl, hSF⟩
    · rintro i σ H' ⟨_, _, _, _, _, kk, _⟩
      exact kk.at_ _ _ hF (not_one nRS)
    · rintro i ky v σ H' hy ⟨o2, o3, o4, o5, rfl, kk, hSi⟩
      obtain ⟨e, he, ev⟩ := map_get hy
      cases ev
      have hem := List.mem_of_getElem? he
      obtain ⟨vs, hvF, av⟩ := rrF e hem
      have hv := kk.at_ _ _ hvF (not_one (nrS e hem))
      have lv := dpa_len av
      rw [List.length_map] at lv
      have fbi := fb i
      have fbj := fb (i + 1)
      obtain ⟨hc1, hc2⟩ := hcr e hem
      have step : ((rw.take (i + 1)).flatMap fun e => endsR (rle (c e.1))) = ((rw.take i).flatMap fun e => endsR (rle (c e.1))) ++ endsR (rle (c e.1)) := by
        rw [List.take_add_one, he, List.flatMap_append]
        congr 1
        show List.flatMap _ [e] = _
        rw [List.flatMap_cons, List.flatMap_nil, List.append_nil]
      rw [step, List.length_append] at fbj
      rw [step]
      obtain ⟨pre, epre⟩ : ∃ pre, pre = (rw.take i).flatMap fun e => endsR (rle (c e.1)) := ⟨_, rfl⟩
      rw [← epre] at hSi fbi fbj ⊢
      walk_at "gs"
      refine i_each (SqL.of hv) (fun j σ H' => ∃ o4 o5 : Option V, σ = [some (.ref md), some (.ref S), some (.ref e.2), some (.int (wide ((rle (c e.1)).take j))), o4, o5, none, none, none, none, none] ∧ Kp [S] HF H' ∧ H' S = some (.lst ((pre ++ (List.range j).map fun j => wide ((rle (c e.1)).take (j + 1))).map V.int))) ?_ ?_ ?_ ?_
      · exact ⟨_, _, rfl, kk, by rw [List.range_zero, List.map_nil, List.append_nil]; exact hSi⟩
      · rintro j σ H2 _ ⟨_, _, _, k3, _⟩
        exact SqL.of (k3.at_ _ _ hvF (not_one (nrS e hem)))
      · rintro j y σ H2 hy2 ⟨o4, o5, rfl, k3, hS3⟩
        obtain ⟨d, hd, hdp⟩ := dpa_getV av hy2
        obtain ⟨q, hq, rfl⟩ := map_get hd
        obtain ⟨t, rfl, hT⟩ := dp_pair (dp_imm k3 _ _ rfl hdp)
        have hjl := (List.getElem?_eq_some_iff.mp hq).1
        rw [endsR_len] at fbj
        walk_at "gs"
        refine i_app hS3 (small_sz (by rw [List.length_map, List.length_append, List.length_map, List.length_range]; omega)) ?_
        walk_at "gs"
        have es : (List.range (j + 1)).map (fun j => wide ((rle (c e.1)).take (j + 1))) = (List.range j).map (fun j => wide ((rle (c e.1)).take (j + 1))) ++ [wide ((rle (c e.1)).take (j + 1))] := by
          rw [List.range_succ, List.map_append]
          rfl
        rw [snoc_int, ← wide_take hq, es, ← List.append_assoc]
        exact ⟨_, _, rfl, Kp.trans k3 (kp_set hS3 (fun z => z)), upd_same⟩
      · rintro σ H2 ⟨o4, o5, rfl, k3, hS3⟩
        rw [lv] at hS3
        exact ⟨_, _, _, _, rfl, k3, hS3⟩
    rintro σ H3 ⟨o2, o3, o4, o5, rfl, k3, hS3⟩
    rw [List.length_map, List.take_length] at hS3
    refine ⟨k3.at_ _ _ hF (not_one nRS), ?_⟩
    rw [eF] at k3
    have k4 : Kp [S] H1 (upd H3 R (.dK (rw.map kA))) := kp_unlW hR1 (fun z => z) k3 fun b hb => by
      rw [List.mem_singleton.mp hb]
      exact nRS
    have hS4 : (upd H3 R (.dK (rw.map kA))) S = _ := upd_nn (o := HO.dK (rw.map kA)) (Ne.symm nRS) hS3
    have fbe := fb rw.length
    rw [List.take_length] at fbe
    have k04 : Kp [] H (upd H3 R (.dK (rw.map kA))) := Kp.drop (Kp.trans kS.wide k4) fS
    obtain ⟨H4, e4⟩ : ∃ H4, H4 = upd H3 R (.dK (rw.map kA)) := ⟨_, rfl⟩
    rw [← e4] at k4 hS4 k04 ⊢
    obtain ⟨ns, ens⟩ : ∃ ns, ns = rw.flatMap fun e => endsR (rle (c e.1)) := ⟨_, rfl⟩
    rw [← ens] at hS4 fbe
    have hm4 := k04.at_ _ _ hm not_nil
    walk_at "gs"
    refine i_new fun F fF => ?_
    have kF5 : Kp [] H4 (upd H4 F (.lst [])) := Kp.new fF
    have hF5 : (upd H4 F (.lst [])) F = some (.lst []) := upd_same
    have hS5 := kF5.at_ _ _ hS4 not_nil
    obtain ⟨H5, e5⟩ : ∃ H5, H5 = upd H4 F (.lst []) := ⟨_, rfl⟩
    rw [← e5] at kF5 hF5 hS5 ⊢
    walk_at "gs"
    refine i_new fun T fT => ?_
    have kT : Kp [] H5 (upd H5 T (.tup [V.ref F, V.int 0])) := Kp.new fT
    have hT : SqT K (upd H5 T (.tup [V.ref F, V.int 0])) T [V.ref F, V.int 0] := SqT.of upd_same
    have hF6 := kT.at_ _ _ hF5 not_nil
    have hS6 := kT.at_ _ _ hS5 not_nil
    have k46 := Kp.trans kF5 kT
    obtain ⟨H6, e6⟩ : ∃ H6, H6 = upd H5 T (.tup [V.ref F, V.int 0]) := ⟨_, rfl⟩
    rw [← e6] at kT hT hF6 hS6 k46 ⊢
    walk_at "gs"
    refine ⟨S, ns, rfl, SqL.of hS6, by omega, fun p cc fp hcc => ?_⟩
    have kp7 : Kp [] H6 (upd H6 p (L2.SetO w p (fun j => decide (j ∈ ns)) cc)) := Kp.new fp
    walk_at "gs"
    refine ⟨p, _, cc, rfl, upd_same, by omega, fun E q pw mem fq => ?_⟩
    obtain ⟨H7, e7⟩ : ∃ H7, H7 = upd H6 p (L2.SetO w p (fun j => decide (j ∈ ns)) cc) := ⟨_, rfl⟩
    rw [← e7] at kp7 fq ⊢
    have kq : Kp [] H7 (upd H7 q (.lst (E.map V.int))) := Kp.new fq
    have hq8 : (upd H7 q (.lst (E.map V.int))) q = some (.lst (E.map V.int)) := upd_same
    have k68 := Kp.trans kp7 kq
    have hF8 := k68.at_ _ _ hF6 not_nil
    have k08 := Kp.trans k04 (Kp.trans k46 k68)
    obtain ⟨H8, e8⟩ : ∃ H8, H8 = upd H7 q (.lst (E.map V.int)) := ⟨_, rfl⟩
    rw [← e8] at kq hq8 k68 hF8 k08 ⊢
    have fFH : Fr H F := k04.free fF
    have ea : EAll c liv E := ⟨pw, fun x => by
      rw [mem, decide_eq_true_eq, ens, List.mem_flatMap]
      constructor
      · rintro ⟨e, he, hx⟩
        exact ⟨e.1, by rw [← kr]; exact List.mem_map.mpr ⟨e, he, rfl⟩, hx⟩
      · rintro ⟨u, hu, hx⟩
        rw [← kr] at hu
        obtain ⟨e, he, rfl⟩ := List.mem_map.mp hu
        exact ⟨e, he, hx⟩⟩
    have lE : E.length ≤ 168 := Nat.le_trans (sub_len (pw.imp fun {a b} lt e => by omega) fun x hx => by
      have := (mem x).mp hx
      rw [decide_eq_true_eq] at this
      exact this) fbe
    have nqF : q ≠ F := fun z => by
      rw [z, hF8] at hq8
      cases E with
      | nil => 
        have := fq.e
        rw [z] at this
        have h9 := kp7.at_ _ _ hF6 not_nil
        rw [this] at h9
        cases h9
      | cons a l => cases hq8
    have nmF : md ≠ F := fr_ne (k04.at_ _ _ hm not_nil) fF
    have nRF : R ≠ F := fr_ne (k04.at_ _ _ hR not_nil) fF
    have nrF : ∀ r ∈ rw, r.2 ≠ F := fun r hr => fr_tr (tr_ld (hrr r hr).1) fFH
    have hm8 := k08.at_ _ _ hm not_nil
    have hR8 := k08.at_ _ _ hR not_nil
    have rr8 : ∀ q ∈ rw, LD K H8 q.2 ((rle (c q.1)).map d2) := fun q hq => (hrr q hq).1.kp k08 (imms_d2 _) not_nil
    walk_at "gs"
    refine i_each (SqL.of hq8) (fun i σ H' => ∃ (o2 o3 o4 o5 o8 o9 o10 : Option V) (b : Int) (xs : List V), σ = [some (.ref md), some (.ref S), o2, o3, o4, o5, some (.ref F), some (.int b), o8, o9, o10] ∧ (0 :: E)[i]? = some b ∧ Kp [F] H8 H' ∧ H' F = some (.lst xs) ∧ ColVs H' xs ((colsOf c liv E).take i) ∧ DsOk H H' xs) ?_ ?_ ?_ ?_
    · exact ⟨_, _, _, _, _, _, _, 0, [], rfl, rfl, Kp.refl, hF8, trivial, DsOk.nil⟩
    · rintro i σ H' _ ⟨_, _, _, _, _, _, _, _, _, _, _, kk, _⟩
      exact SqL.of (kk.at_ _ _ hq8 (not_one nqF))
    · rintro i y σ H' hy ⟨o2, o3, o4, o5, o8, o9, o10, b, xs, rfl, hb, kk, hFi, cv, dso⟩
      obtain ⟨e, he, ee⟩ := map_get hy
      cases ee
      have hmi := kk.at_ _ _ hm8 (not_one nmF)
      have hRi := kk.at_ _ _ hR8 (not_one nRF)
      walk_at "gs"
      refine i_lockE hRi fun od3 => ?_
      obtain ⟨HJ, eJ⟩ : ∃ HJ, HJ = upd H' R (.frz od3 (.dK (rw.map kA))) := ⟨_, rfl⟩
      have kJ : Kp [R] H' HJ := by rw [eJ]; exact kp_set hRi (fun z => z)
      have hJ : HJ R = some (.frz od3 (.dK (rw.map kA))) := by rw [eJ]; exact upd_same
      have hmJ := kJ.at_ _ _ hmi (not_one nmR)
      have rrJ : ∀ q ∈ rw, LD K HJ q.2 ((rle (c q.1)).map d2) := fun q hq => ((rr8 q hq).kp kk (imms_d2 _) (not_one (nrF q hq))).kp kJ (imms_d2 _) (not_one (nrR q hq))
      have okE : ∀ r ∈ rw, EOk (c r.1) E := fun r hr => ea.ok (n := n) (fun u hu => (hc u hu).1) (by rw [← kr]; exact List.mem_map.mpr ⟨r, hr, rfl⟩)
      rw [← eJ]
      walk_at "gs"
      refine i_dgS hmJ hkv ?_
      walk_at "gs"
      refine i_pairG hJ (fun G j H2 => Kp [] HJ H2 ∧ ∃ ys, H2 G = some (.lst ys) ∧ PrsAt H2 ys ((rw.take j).map fun r => (r.1, (c r.1).getD b.toNat 0))) ?_ ?_ ?_ ?_
      · intro G fG
        exact ⟨Kp.new fG, [], upd_same, trivial⟩
      · rintro G j H2 fG ⟨k3, _⟩
        exact k3.at_ _ _ hJ not_nil
      · rintro G j ky v U H2 fG hyr ⟨k3, ys, hG, py⟩ fU
        obtain ⟨r, hr, er⟩ := map_get hyr
        cases er
        have hrm := List.mem_of_getElem? hr
        have kU : Kp [] H2 (upd H2 U (.tup [V.int r.1, V.ref r.2])) := Kp.new fU
        have hU : SqT K (upd H2 U (.tup [V.int r.1, V.ref r.2])) U [V.int r.1, V.ref r.2] := SqT.of upd_same
        have hG3 := kU.at_ _ _ hG not_nil
        have k4 := Kp.trans k3 kU
        have ld3 := (rrJ r hrm).kp k4 (imms_d2 _) not_nil
        have py3 := py.kp kU
        have lyp := py.len
        rw [List.length_map, List.length_take] at lyp
        show gTup K 2 _ (.ref U) _ (upd H2 U (.tup [V.int r.1, V.ref r.2])) _
        obtain ⟨G3, e3⟩ : ∃ G3, G3 = upd H2 U (.tup [V.int r.1, V.ref r.2]) := ⟨_, rfl⟩
        rw [← e3] at kU hU hG3 k4 ld3 py3 ⊢
        obtain ⟨b0, be⟩ := (okE r hrm).lt hb he
        have el := (okE r hrm).le e (List.mem_of_getElem? he)
        have hcl := (hcr r hrm).2
        obtain ⟨q0, qs, ecut, eq2⟩ := cut_head (cs := c r.1) b0 be el
        walk_at "gs"
        refine ⟨r.2, b, e, rle (c r.1), rfl, ld3.dp, by omega, fun l G4 fl k5 ld5 => ?_⟩
        rw [ecut] at ld5
        obtain ⟨t5, vs5, hl5, ht5, _⟩ := ld_cons ld5
        have hG4 := k5.at_ _ _ hG3 not_nil
        have py4 := py3.kp k5
        walk_at "gs"
        refine i_new fun T fT => ?_
        have kT : Kp [] G4 (upd G4 T (.tup [V.int r.1, V.int q0.2])) := Kp.new fT
        have hG5 := kT.at_ _ _ hG4 not_nil
        have py5 := py4.kp kT
        walk_at "gs"
        refine ⟨ys, hG5, small_sz (by omega), Kp.upd (Kp.trans (Kp.trans k4 k5) kT) fG, ys ++ [.ref T], upd_same, ?_⟩
        have es2 : (rw.take (j + 1)).map (fun r => (r.1, (c r.1).getD b.toNat 0)) = (rw.take j).map (fun r => (r.1, (c r.1).getD b.toNat 0)) ++ [(r.1, (c r.1).getD b.toNat 0)] := by
          rw [List.take_add_one, hr, List.map_append]
          rfl
        rw [es2]
        exact (PrsAt.snoc (q := (r.1, (c r.1).getD b.toNat 0)) (by rw [← eq2]; exact upd_same) py5).kp (kp_set hG5 (fun z => z))
      rintro G H2 fG ⟨k2, ys, hG, py⟩
      rw [List.length_map, List.take_length] at py
      rw [eJ] at fG k2
      obtain ⟨nGR, fG0⟩ := fr_frz hRi fG
      refine ⟨k2.at_ _ _ upd_same not_nil, ?_⟩
      have k5 : Kp [] H' (upd H2 R (.dK (rw.map kA))) := kp_unl hRi (fun z => z) k2
      have hG5 := upd_nn (o := HO.dK (rw.map kA)) nGR hG
      have py5 : PrsAt (upd H2 R (.dK (rw.map kA))) ys _ := py.unfz (k2.at_ _ _ upd_same not_nil)
      have ecol : (rw.map fun r => (r.1, (c r.1).getD b.toNat 0)) = colN c liv b := by
        unfold colN
        rw [← kr, List.map_map]
        rfl
      rw [ecol] at py5
      obtain ⟨G5, e5⟩ : ∃ G5, G5 = upd H2 R (.dK (rw.map kA)) := ⟨_, rfl⟩
      rw [← e5] at k5 hG5 py5 ⊢
      walk_at "gs"
      refine i_dictPrs hG5 py5 (by rw [colN_keys]; exact nl) (i_new fun d fd => ?_)
      have kd : Kp [] G5 (upd G5 d (.dK ((colN c liv b).map kN))) := Kp.new fd
      have hd6 : (upd G5 d (.dK ((colN c liv b).map kN))) d = some (.dK ((colN c liv b).map kN)) := upd_same
      have k56 := Kp.trans k5 kd
      have hF6 := k56.at_ _ _ hFi not_nil
      have cv6 := cv.kp k56
      obtain ⟨G6, e6⟩ : ∃ G6, G6 = upd G5 d (.dK ((colN c liv b).map kN)) := ⟨_, rfl⟩
      rw [← e6] at kd hd6 k56 hF6 cv6 ⊢
      walk_at "gs"
      refine i_new fun P fP => ?_
      have kP : Kp [] G6 (upd G6 P (.tup [V.int (e - b), V.ref d])) := Kp.new fP
      have hF7 := kP.at_ _ _ hF6 not_nil
      have hP7 : (upd G6 P (.tup [V.int (e - b), V.ref d])) P = some (.tup [V.int (e - b), V.ref d]) := upd_same
      have hd7 := kP.at_ _ _ hd6 not_nil
      have cv7 := cv6.kp kP
      have k57 := Kp.trans k56 kP
      obtain ⟨G7, e7⟩ : ∃ G7, G7 = upd G6 P (.tup [V.int (e - b), V.ref d]) := ⟨_, rfl⟩
      rw [← e7] at kP hF7 hP7 hd7 cv7 k57 ⊢
      have lx := cv7.len
      rw [List.length_take, colsOf_len] at lx
      have il := (List.getElem?_eq_some_iff.mp he).1
      walk_at "gs"
      have kL : Kp [F] G7 (upd G7 F (.lst (xs ++ [V.ref P]))) := kp_set hF7 (fun z => z)
      have nPF : P ≠ F := fun z => by
        rw [z, hF7] at hP7
        cases hP7
      have ndF : d ≠ F := fun z => by
        rw [z, hF7] at hd7
        cases hd7
      refine ⟨_, _, _, _, _, _, _, e, xs ++ [.ref P], rfl, by rw [List.getElem?_cons_succ]; exact he, Kp.trans kk (Kp.trans k57.wide kL), upd_same, ?_⟩
      rw [List.take_add_one, colsOf_get hb he]
      have fdH : Fr H d := (Kp.trans k08.wide kk).free (k5.free fd)
      refine ⟨?_, dso.snoc (k5.free fd) fdH (Kp.trans k57.wide kL) (v := .int (e - b)) (d := d) (by rw [upd_ne nPF]; exact hP7) (tr_kp kL (tr_of hd7))⟩
      exact ColVs.snoc (q := (e - b, colN c liv b)) (by rw [upd_ne nPF]; exact hP7) (by rw [upd_ne ndF]; exact hd7) (cv7.kl kL hF7)
    rintro σ H' ⟨o2, o3, o4, o5, o8, o9, o10, b, xs, rfl, hb, kk, hF', cv, dso⟩
    rw [List.length_map, ← colsOf_len (c := c) (liv := liv), List.take_length] at cv
    walk_at "gs"
    exact k F E xs H' ea cv dso fFH (Kp.drop (Kp.trans k08.wide kk) fFH) hF' lE

theorem perm_le_eq : ∀ {l m : List Int}, l.Perm m → l.Pairwise (· ≤ ·) → m.Pairwise (· ≤ ·) → l = m
  | [], m, p, _, _ => p.nil_eq
  | a :: l, [], p, _, _ => absurd p.length_eq (by rw [List.length_cons, List.length_nil]; omega)
  | a :: l, b :: m, p, h, k => by
    rw [List.pairwise_cons] at h k
    have e : a = b := by
      have h1 : a = b ∨ a ∈ m := List.mem_cons.mp (p.mem_iff.mp List.mem_cons_self)
      have h2 : b = a ∨ b ∈ l := List.mem_cons.mp (p.mem_iff.mpr List.mem_cons_self)
      rcases h1 with e | h1
      · exact e
      · rcases h2 with e | h2
        · exact e.symm
        · exact Int.le_antisymm (h.1 b h2) (k.1 a h1)
    subst e
    rw [perm_le_eq p.cons_inv h.2 k.2]
theorem cells_pos : ∀ ps : List (Int × Int), (∀ q ∈ ps, 0 ≤ q.1) → cells (ps.filter fun q => decide (0 < q.1)) = cells ps ∧ ((cells ps).length : Int) = wide ps
  | [], _ => ⟨rfl, rfl⟩
  | q :: ps, h => by
    obtain ⟨a, b⟩ := cells_pos ps fun z hz => h z (List.mem_cons_of_mem _ hz)
    have q0 := h q List.mem_cons_self
    have ew : wide (q :: ps) = q.1 + wide ps := rfl
    rw [List.filter_cons, cells_cons, List.length_append, List.length_replicate, ew]
    refine ⟨?_, by omega⟩
    by_cases c : 0 < q.1
    · rw [if_pos (decide_eq_true c), cells_cons, a]
    · have e : q.1.toNat = 0 := by omega
      rw [if_neg (by simpa using c), a, e]
      rfl
theorem cells_mem {v : Int} : ∀ {ps : List (Int × Int)}, v ∈ cells ps → ∃ q ∈ ps, q.2 = v
  | [], h => (nomatch h)
  | q :: ps, h => by
    rw [cells_cons, List.mem_append] at h
    rcases h with h | h
    · exact ⟨q, List.mem_cons_self, (List.mem_replicate.mp h).2.symm⟩
    · obtain ⟨z, hz, e⟩ := cells_mem h
      exact ⟨z, List.mem_cons_of_mem _ hz, e⟩
def sp_lrow (K : PySem.W.Frag) : Sp := fun vs H Q _ => ∃ (p s : Addr) (n : Int) (ss : List Int), vs = [.ref p, .int n, .ref s] ∧ PotAt H p ∧ H s = some (.lst (ss.map V.int)) ∧ s ≠ p ∧ 1 ≤ n ∧ n ≤ 1000000000000000000 ∧ ss ≠ [] ∧ ss.length ≤ 100 ∧ (∀ x ∈ ss, 0 ≤ x ∧ x ≤ n) ∧
  ∀ l H' cs ss', PotAt H' p → Kp [p, s] H H' → H' s = some (.lst (ss'.map V.int)) → ss' ≠ [] → ss'.length ≤ ss.length + 6 → (∀ x ∈ ss', 0 ≤ x ∧ x ≤ n) → LD K H' l ((rle cs).map d2) → (cs.length : Int) = n → (rle cs).length ≤ 7 → (∀ v ∈ cs, okM v) → Fr H l → Q (.ref l) H'
theorem sc_law_row : FnScope ["_law_pot_here", "_law_wide_here", "_law_spots", "_law_cuts", "_law_k", "_law_found", "_law_begin", "_law_stop", "_law_piece"] ["_law_pot_here", "_law_wide_here", "_law_spots"] (defScope s_law_row) :=
  ⟨rfl, rfl, rfl, by decide +kernel, rfl, by decide +kernel, by decide +kernel⟩
theorem ok_law_row {P : Program} {w : World} {K : PySem.W.Frag} {mg : Str → Option Value} {base : Heap} (T : Txt K mg) :
    FnG P w K mg base 3 T.a_law_row T.d_law_row ["_law_pot_here", "_law_wide_here", "_law_spots"] (sp_lrow K) := by
  refine okD T.F_law_row sc_law_row (fun vs H Q E h => ?_) (fun cdv A outer s H vs Q E hr h => ?_)
  · first
      | (obtain ⟨_, rfl, _⟩ := h; rfl)
      | (obtain ⟨_, _, rfl, _⟩ := h; rfl)
      | (obtain ⟨_, _, _, rfl, _⟩ := h; rfl)
      | (obtain ⟨_, _, _, _, rfl, _⟩ := h; rfl)
      | (obtain ⟨_, _, _, _, _, rfl, _⟩ := h; rfl)
      | (obtain ⟨_, _, _, _, _, _, rfl, _⟩ := h; rfl)
      | (obtain ⟨_, _, _, _, _, _, _, rfl, _⟩ := h; rfl)
      | (obtain ⟨_, _, _, _, _, _, _, _, rfl, _⟩ := h; rfl)
      | (obtain ⟨_, _, _, _, _, _, _, _, _, rfl, _⟩ := h; rfl)
      | (obtain ⟨_, _, _, _, _, _, _, _, _, _, rfl, _⟩ := h; rfl)
      | (obtain ⟨_, _, _, _, _, _, _, _, _, _, _, rfl, _⟩ := h; rfl)
      | (obtain ⟨_, _, _, _, _, _, _, _, _, _, _, _, rfl, _⟩ := h; rfl)
      | (obtain ⟨_, _, _, _, _, _, _, _, _, _, _, _, _, rfl, _⟩ := h; rfl)
      | (obtain ⟨_, _, _, _, _, _, _, _, _, _, _, _, _, _, rfl, _⟩ := h; rfl)
      | (obtain ⟨_, _, _, _, _, _, _, _, _, _, _, _, _, _, _, rfl, _⟩ := h; rfl)
      | (obtain ⟨_, _, _, _, _, _, _, _, _, _, _, _, _, _, _, _, rfl, _⟩ := h; rfl)
      | (obtain ⟨_, _, _, _, _, _, _, _, _, _, _, _, _, _, _, _, _, rfl, _⟩ := h; rfl)
      | (obtain ⟨_, _, _, _, _, _, _, _, _, _, _, _, _, _, _, _, _, _, rfl, _⟩ := h; rfl)
      | (obtain ⟨_, _, _, _, _, _, _, _, _, _, _, _, _, _, _, _, _, _, _, rfl, _⟩ := h; rfl)
  · obtain ⟨p, s, n, ss, rfl, hp, hs, nsp, n1, n2, ne, ls, bs, k⟩ := h
    have cl_Memory := T.cl_Memory
    have na_Memory_pairs := T.na_Memory_pairs
    have na_Memory_wide := T.na_Memory_wide
    refine ⟨_, (pss_cons (ps_set (i := 3) sc_law_row.nd rfl (Or.inl rfl) (pe_lst pa_nil))
      (pss_cons (ps_for (passes_of rfl) rfl (pi_range1 (by rfl) T.n_range (pa_cons (d1 (ok_law_take T) (hr.mono (by decide)) (by rfl) T.m_law_take T.F_law_take.kp T.b_law_take passL (pa_cons (pv 0) (pa_cons pe_int pa_nil))) pa_nil)) (pg_name (i := 4) sc_law_row.nd rfl (Or.inl rfl))
      (pss_one (ps_expr (pe_bm PySem.F.plainAttrs_list PySem.F.slot_list_append PySem.F.type_list_append mt_append (pv 3) (pa_cons (pe_ix (k_ix (K := K) rfl) (pe_lst (pa_cons (d1 (ok_law_among T) (hr.mono (by decide)) (by rfl) T.m_law_among T.F_law_among.kp T.b_law_among passL (pa_cons (pv 0) (pa_cons (pv 2) pa_nil))) (pa_cons (d1 (ok_law_take T) (hr.mono (by decide)) (by rfl) T.m_law_take T.F_law_take.kp T.b_law_take passL (pa_cons (pv 0) (pa_cons (pe_op (k_add (K := K) rfl) (pv 1) pe_int) pa_nil))) pa_nil))) (d1 (ok_law_take T) (hr.mono (by decide)) (by rfl) T.m_law_take T.F_law_take.kp T.b_law_take passL (pa_cons (pv 0) (pa_cons pe_int pa_nil))) (fun _ _ => rfl)) pa_nil)))))
      (pss_cons (ps_expr (pe_bm PySem.F.plainAttrs_list PySem.F.slot_list_extend PySem.F.type_list_extend mt_extend (pv 2) (pa_cons (pv 3) pa_nil)))
      (pss_cons (ps_set (i := 5) sc_law_row.nd rfl (Or.inl rfl) (pe_lst pa_nil))
      (pss_cons (ps_for (passes_of rfl) rfl (k_pzip (K := K) rfl (by rfl) T.n_zip (pa_cons (pe_op (k_add (K := K) rfl) (pe_lst (pa_cons pe_int pa_nil)) (pe_callB (k_sorted (K := K) rfl) (by rfl) T.n_sorted (by decide +kernel) (pa_cons (pv 3) pa_nil))) (pa_cons (pe_op (k_add (K := K) rfl) (pe_callB (k_sorted (K := K) rfl) (by rfl) T.n_sorted (by decide +kernel) (pa_cons (pv 3) pa_nil)) (pe_lst (pa_cons (pv 1) pa_nil))) pa_nil))) (k_gtup (K := K) 2 rfl rfl (pgs_cons (pg_name (i := 6) sc_law_row.nd rfl (Or.inl rfl)) (pgs_cons (pg_name (i := 7) sc_law_row.nd rfl (Or.inl rfl)) pgs_nil)))
      (pss_one (ps_expr (pe_bm PySem.F.plainAttrs_list PySem.F.slot_list_append PySem.F.type_list_append mt_append (pv 5) (pa_cons (pe_tup (pa_cons (pe_op op_sub (pv 7) (pv 6)) (pa_cons (d1 (ok_law_number T) (hr.mono (by decide)) (by rfl) T.m_law_number T.F_law_number.kp T.b_law_number passL (pa_cons (pv 0) pa_nil)) pa_nil))) pa_nil)))))
      (pss_one (ps_ret (d1 (ok_law_joined T) (hr.mono (by decide)) (by rfl) T.m_law_joined T.F_law_joined.kp T.b_law_joined passL (pa_cons (pe_lc (own := [("_law_piece", 8)]) (g := (gName 8)) rfl sc_law_row.nd (k_plist (K := K) rfl (pv 5)) (blkOk_by (own := [("_law_piece", 8)]) (N := ["_law_pot_here", "_law_wide_here", "_law_spots", "_law_cuts", "_law_k", "_law_found", "_law_begin", "_law_stop", "_law_piece"]) (sc := defScope s_law_row) (by decide +kernel)) (fun _ _ _ _ _ => (pg_name (i := 8) sc_law_row.nd rfl (Or.inl rfl))) (fun _ _ _ _ _ => (pts_one (pt_cmpR op_gt (pe_ix (k_ix (K := K) rfl) (pv 8) pe_int (fun _ _ => rfl)) pe_int (nomark _)))) (fun _ _ _ _ _ => (pv 8))) pa_nil))))))))), ?_⟩
    dsimp only [cxOf, st_1, st_2, st_3, st_4, st_5, st_6, List.length_cons, List.length_nil, List.replicate_succ, List.replicate_zero, Nat.reduceAdd, Nat.reduceSub]
    walk_at "gs"
    refine i_new fun C fC => ?_
    have kC : Kp [] H (upd H C (.lst [])) := Kp.new fC
    have hC : (upd H C (.lst [])) C = some (.lst (([] : List Int).map V.int)) := upd_same
    have hs1 := kC.at_ _ _ hs not_nil
    have nsC : s ≠ C := fr_ne hs fC
    have nCp : C ≠ p := Ne.symm (hp.ne fC)
    have hp1 := hp.kp kC not_nil
    obtain ⟨H1, e1⟩ : ∃ H1, H1 = upd H C (.lst []) := ⟨_, rfl⟩
    rw [← e1] at kC hC hs1 hp1 ⊢
    walk_at "gs"
    refine use_take hp1 (by decide) (by decide) (fun r H2 r0 r1 hp2 k2 => ?_)
    have hC2 := k2.at_ _ _ hC (not_one nCp)
    walk_at "gs"
    have lss : 0 < (ss.map V.int).length := by rw [List.length_map]; exact List.length_pos_iff.mpr ne
    refine i_turns (by omega) (by omega) (fun i σ H' => ∃ (o4 : Option V) (cuts : List Int), σ = [some (.ref p), some (.int n), some (.ref s), some (.ref C), o4, none, none, none, none] ∧ PotAt H' p ∧ Kp [p, C] H1 H' ∧ H' C = some (.lst (cuts.map V.int)) ∧ cuts.length ≤ i ∧ ∀ x ∈ cuts, 0 ≤ x ∧ x ≤ n) ?_ ?_ ?_
    · exact ⟨_, [], rfl, hp2, k2.mono fun b hb => List.mem_cons.mpr (.inl (List.mem_singleton.mp hb)), hC2, Nat.le_refl _, fun x hx => (nomatch hx)⟩
    · rintro i σ H3 hi ⟨o4, cuts, rfl, hp3, k3, hC3, lc, bc⟩
      have hs3 := k3.at_ _ _ hs1 (fun z => by
        rcases List.mem_cons.mp z with h | h
        · exact nsp h
        · exact nsC (List.mem_singleton.mp h))
      walk_at "gs"
      refine ⟨p, s, ss.map V.int, rfl, hp3, SqL.of hs3, nsp, lss, by rw [List.length_map]; omega, fun v H4 hv hp4 k4 => ?_⟩
      obtain ⟨y, hy, rfl⟩ := List.mem_map.mp hv
      obtain ⟨y0, y1⟩ := bs y hy
      walk_at "gs"
      refine use_take hp4 (by omega) (by omega) (fun z H5 z0 z1 hp5 k5 => ?_)
      walk_at "gs"
      refine i_new fun G fG => ?_
      have kG : Kp [] H5 (upd H5 G (.lst [V.int y, V.int z])) := Kp.new fG
      have hG : (upd H5 G (.lst [V.int y, V.int z])) G = some (.lst [V.int y, V.int z]) := upd_same
      have hp6 := hp5.kp kG not_nil
      have nGp : G ≠ p := Ne.symm (hp5.ne fG)
      obtain ⟨H6, e6⟩ : ∃ H6, H6 = upd H5 G (.lst [V.int y, V.int z]) := ⟨_, rfl⟩
      rw [← e6] at kG hG hp6 ⊢
      walk_at "gs"
      refine use_take hp6 (by decide) (by decide) (fun t H7 t0 t1 hp7 k7 => ?_)
      have hG7 := k7.at_ _ _ hG (not_one nGp)
      have k37 : Kp [p] H3 H7 := Kp.trans k4 (Kp.trans k5 (Kp.trans kG.wide k7))
      have hC7 := k37.at_ _ _ hC3 (not_one nCp)
      have sz : (cuts.map V.int).length < sizeLine := small_sz (by rw [List.length_map]; omega)
      have fin : ∀ x : Int, 0 ≤ x → x ≤ n → ∃ (o4 : Option V) (cuts' : List Int), [some (V.ref p), some (.int n), some (.ref s), some (.ref C), some (.int (i : Nat)), none, none, none, none] = [some (V.ref p), some (.int n), some (.ref s), some (.ref C), o4, none, none, none, none] ∧ PotAt (upd H7 C (.lst (cuts.map V.int ++ [V.int x]))) p ∧ Kp [p, C] H1 (upd H7 C (.lst (cuts.map V.int ++ [V.int x]))) ∧ (upd H7 C (.lst (cuts.map V.int ++ [V.int x]))) C = some (.lst (cuts'.map V.int)) ∧ cuts'.length ≤ i + 1 ∧ ∀ x ∈ cuts', 0 ≤ x ∧ x ≤ n := fun x x0 x1 => by
        have kA : Kp [C] H7 (upd H7 C (.lst (cuts.map V.int ++ [V.int x]))) := kp_set hC7 (fun z => z)
        refine ⟨_, cuts ++ [x], rfl, hp7.kp kA (not_one (Ne.symm nCp)), Kp.trans k3 (Kp.trans (k37.mono fun b hb => List.mem_cons.mpr (.inl (List.mem_singleton.mp hb))) (kA.mono fun b hb => List.mem_cons_of_mem _ hb)), by rw [snoc_int]; exact upd_same, by rw [List.length_append, List.length_singleton]; omega, fun w hw => ?_⟩
        rcases List.mem_append.mp hw with h | h
        · exact bc w h
        · rw [List.mem_singleton.mp h]
          exact ⟨x0, x1⟩
      have c : t = 0 ∨ t = 1 := by omega
      rcases c with rfl | rfl
      · refine i_ixL (SqL.of hG7) (v := .int y) rfl ?_
        walk_at "gs"
        exact fin y y0 y1
      · refine i_ixL (SqL.of hG7) (v := .int z) rfl ?_
        walk_at "gs"
        exact fin z z0 (by omega)
    rintro σ H3 ⟨o4, cuts, rfl, hp3, k3, hC3, lc, bc⟩
    have hs3 := k3.at_ _ _ hs1 (fun z => by
      rcases List.mem_cons.mp z with h | h
      · exact nsp h
      · exact nsC (List.mem_singleton.mp h))
    walk_at "gs"
    refine i_extend hs3 hC3 (by rw [List.length_map, List.length_map]; omega) ?_
    have nps : p ≠ s := Ne.symm nsp
    have nCs : C ≠ s := Ne.symm nsC
    have kS : Kp [s] H3 (upd H3 s (.lst (ss.map V.int ++ cuts.map V.int))) := kp_set hs3 (fun z => z)
    have hs4 : (upd H3 s (.lst (ss.map V.int ++ cuts.map V.int))) s = some (.lst ((ss ++ cuts).map V.int)) := by
      rw [← List.map_append]
      exact upd_same
    have hC4 := kS.at_ _ _ hC3 (not_one nCs)
    have hp4 := hp3.kp kS (not_one nps)
    have k14 : Kp [p, C, s] H1 (upd H3 s (.lst (ss.map V.int ++ cuts.map V.int))) := Kp.trans (k3.mono fun b hb => by
      rcases List.mem_cons.mp hb with h | h
      · exact List.mem_cons.mpr (.inl h)
      · exact List.mem_cons_of_mem _ (List.mem_cons.mpr (.inl (List.mem_singleton.mp h)))) (kS.mono fun b hb => List.mem_cons_of_mem _ (List.mem_cons_of_mem _ hb))
    obtain ⟨H4, e4⟩ : ∃ H4, H4 = upd H3 s (.lst (ss.map V.int ++ cuts.map V.int)) := ⟨_, rfl⟩
    rw [← e4] at kS hs4 hC4 hp4 k14 ⊢
    walk_at "gs"
    refine i_new fun F fF => ?_
    have kF : Kp [] H4 (upd H4 F (.lst [])) := Kp.new fF
    have hF : (upd H4 F (.lst [])) F = some (.lst []) := upd_same
    have hC5 := kF.at_ _ _ hC4 not_nil
    have hs5 := kF.at_ _ _ hs4 not_nil
    have hp5 := hp4.kp kF not_nil
    have nFp : F ≠ p := Ne.symm (hp4.ne fF)
    have nsF : s ≠ F := fr_ne hs4 fF
    obtain ⟨H5, e5⟩ : ∃ H5, H5 = upd H4 F (.lst []) := ⟨_, rfl⟩
    rw [← e5] at kF hF hC5 hs5 hp5 ⊢
    walk_at "gs"
    refine i_new fun Z fZ => ?_
    have kZ : Kp [] H5 (upd H5 Z (.lst [V.int 0])) := Kp.new fZ
    have hZ : (upd H5 Z (.lst [V.int 0])) Z = some (.lst [V.int 0]) := upd_same
    have hC6 := kZ.at_ _ _ hC5 not_nil
    obtain ⟨H6, e6⟩ : ∃ H6, H6 = upd H5 Z (.lst [V.int 0]) := ⟨_, rfl⟩
    rw [← e6] at kZ hZ hC6 ⊢
    walk_at "gs"
    refine i_sorted (SqL.of hC6) fun ns S1 pm pw fS1 => ?_
    have lns : ns.length ≤ 6 := by
      have := pm.length_eq
      omega
    have bns : ∀ x ∈ ns, 0 ≤ x ∧ x ≤ n := fun x hx => bc x (pm.mem_iff.mp hx)
    have kS1 : Kp [] H6 (upd H6 S1 (.lst (ns.map V.int))) := Kp.new fS1
    have hS7 : (upd H6 S1 (.lst (ns.map V.int))) S1 = some (.lst (ns.map V.int)) := upd_same
    have hZ7 := kS1.at_ _ _ hZ not_nil
    have hC7 := kS1.at_ _ _ hC6 not_nil
    obtain ⟨H7, e7⟩ : ∃ H7, H7 = upd H6 S1 (.lst (ns.map V.int)) := ⟨_, rfl⟩
    rw [← e7] at kS1 hS7 hZ7 hC7 ⊢
    refine i_addL hZ7 hS7 (by rw [List.length_map, List.length_singleton]; omega) (i_new fun X fX => ?_)
    have kX : Kp [] H7 (upd H7 X (.lst ([V.int 0] ++ ns.map V.int))) := Kp.new fX
    have hX : (upd H7 X (.lst ([V.int 0] ++ ns.map V.int))) X = some (.lst ((0 :: ns).map V.int)) := upd_same
    have hC8 := kX.at_ _ _ hC7 not_nil
    obtain ⟨H8, e8⟩ : ∃ H8, H8 = upd H7 X (.lst ([V.int 0] ++ ns.map V.int)) := ⟨_, rfl⟩
    rw [← e8] at kX hX hC8 ⊢
    walk_at "gs"
    refine i_sorted (SqL.of hC8) fun ns2 S2 pm2 pw2 fS2 => ?_
    obtain rfl := perm_le_eq (pm2.trans pm.symm) pw2 pw
    have kS2 : Kp [] H8 (upd H8 S2 (.lst (ns2.map V.int))) := Kp.new fS2
    have hS9 : (upd H8 S2 (.lst (ns2.map V.int))) S2 = some (.lst (ns2.map V.int)) := upd_same
    have hX9 := kS2.at_ _ _ hX not_nil
    obtain ⟨H9, e9⟩ : ∃ H9, H9 = upd H8 S2 (.lst (ns2.map V.int)) := ⟨_, rfl⟩
    rw [← e9] at kS2 hS9 hX9 ⊢
    walk_at "gs"
    refine i_new fun Y fY => ?_
    have kY : Kp [] H9 (upd H9 Y (.lst [V.int n])) := Kp.new fY
    have hY : (upd H9 Y (.lst [V.int n])) Y = some (.lst [V.int n]) := upd_same
    have hS10 := kY.at_ _ _ hS9 not_nil
    have hX10 := kY.at_ _ _ hX9 not_nil
    obtain ⟨H10, e10⟩ : ∃ H10, H10 = upd H9 Y (.lst [V.int n]) := ⟨_, rfl⟩
    rw [← e10] at kY hY hS10 hX10 ⊢
    refine i_addL hS10 hY (by rw [List.length_map, List.length_singleton]; omega) (i_new fun O fO => ?_)
    have kO : Kp [] H10 (upd H10 O (.lst (ns2.map V.int ++ [V.int n]))) := Kp.new fO
    have hO : (upd H10 O (.lst (ns2.map V.int ++ [V.int n]))) O = some (.lst ((ns2 ++ [n]).map V.int)) := by
      rw [snoc_int]
      exact upd_same
    have hX11 := kO.at_ _ _ hX10 not_nil
    have k511 : Kp [] H5 (upd H10 O (.lst (ns2.map V.int ++ [V.int n]))) := Kp.trans kZ (Kp.trans kS1 (Kp.trans kX (Kp.trans kS2 (Kp.trans kY kO))))
    obtain ⟨H11, e11⟩ : ∃ H11, H11 = upd H10 O (.lst (ns2.map V.int ++ [V.int n])) := ⟨_, rfl⟩
    rw [← e11] at kO hO hX11 k511 ⊢
    have hF11 := k511.at_ _ _ hF not_nil
    have hp11 := hp5.kp k511 not_nil
    have hs11 := k511.at_ _ _ hs5 not_nil
    have nXp : X ≠ p := fun z => by
      have := (hp5.kp (Kp.trans kZ kS1) not_nil).ne fX
      exact this z.symm
    have nOp : O ≠ p := fun z => by
      have := (hp5.kp (Kp.trans kZ (Kp.trans kS1 (Kp.trans kX (Kp.trans kS2 kY)))) not_nil).ne fO
      exact this z.symm
    have nXF : X ≠ F := Ne.symm (fr_ne ((Kp.trans kZ kS1).at_ _ _ hF not_nil) fX)
    have nOF : O ≠ F := Ne.symm (fr_ne ((Kp.trans kZ (Kp.trans kS1 (Kp.trans kX (Kp.trans kS2 kY)))).at_ _ _ hF not_nil) fO)
    walk_at "gs"
    refine i_both (SqL.of hX11) (SqL.of hO) (fun i σ H' => ∃ (o6 o7 : Option V) (ps : List (Int × Int)), σ = [some (.ref p), some (.int n), some (.ref s), some (.ref C), o4, some (.ref F), o6, o7, none] ∧ PotAt H' p ∧ Kp [p, F] H11 H' ∧ LD K H' F (ps.map d2) ∧ ps.length = i ∧ (∀ q ∈ ps, 0 ≤ q.1 ∧ okM q.2) ∧ (0 :: (ns2 ++ [n]))[i]? = some (wide ps)) ?_ ?_ ?_ ?_
    · exact ⟨_, _, [], rfl, hp11, Kp.refl, ⟨[], hF11, .nil⟩, rfl, fun q hq => (nomatch hq), rfl⟩
    · rintro i σ H' ⟨_, _, _, _, _, kk, _⟩
      refine ⟨SqL.of (kk.at_ _ _ hX11 ?_), SqL.of (kk.at_ _ _ hO ?_)⟩
      · intro z
        rcases List.mem_cons.mp z with h | h
        · exact nXp h
        · exact nXF (List.mem_singleton.mp h)
      · intro z
        rcases List.mem_cons.mp z with h | h
        · exact nOp h
        · exact nOF (List.mem_singleton.mp h)
    · rintro i x y T σ H' hx hy ⟨o6, o7, ps, rfl, hpi, kk, ld, lps, bps, hw⟩ fT
      obtain ⟨b, hb, eb⟩ := map_get hx
      cases eb
      obtain ⟨e, he, ee⟩ := map_get hy
      cases ee
      have kT : Kp [] H' (upd H' T (.tup [V.int b, V.int e])) := Kp.new fT
      have hT : SqT K (upd H' T (.tup [V.int b, V.int e])) T [V.int b, V.int e] := SqT.of upd_same
      have hpT := hpi.kp kT not_nil
      have ldT := ld.kp kT (imms_d2 _) not_nil
      obtain ⟨H12, e12⟩ : ∃ H12, H12 = upd H' T (.tup [V.int b, V.int e]) := ⟨_, rfl⟩
      rw [← e12] at kT hT hpT ldT ⊢
      have il := (List.getElem?_eq_some_iff.mp he).1
      rw [List.length_append, List.length_singleton] at il
      have il2 := (List.getElem?_eq_some_iff.mp hb).1
      have eb : wide ps = b := by
        have : (0 :: (ns2 ++ [n]))[i]? = (0 :: ns2)[i]? := by
          rw [← List.cons_append, List.getElem?_append_left il2]
        rw [this, hb] at hw
        injection hw with hw
        exact hw.symm
      have pwW : (0 :: (ns2 ++ [n])).Pairwise (· ≤ ·) := by
        rw [List.pairwise_cons, List.pairwise_append]
        refine ⟨fun x hx => ?_, pw, List.pairwise_singleton _ _, fun x hx y hy => ?_⟩
        · rcases List.mem_append.mp hx with h | h
          · exact (bns x h).1
          · rw [List.mem_singleton.mp h]
            omega
        · rw [List.mem_singleton.mp hy]
          exact (bns x hx).2
      have be : b ≤ e := by
        have h1 : (0 :: (ns2 ++ [n]))[i]? = some b := by rw [hw, eb]
        have h2 : (0 :: (ns2 ++ [n]))[i + 1]? = some e := by rw [List.getElem?_cons_succ]; exact he
        obtain ⟨l1, g1⟩ := List.getElem?_eq_some_iff.mp h1
        obtain ⟨l2, g2⟩ := List.getElem?_eq_some_iff.mp h2
        rw [← g1, ← g2]
        exact List.pairwise_iff_getElem.mp pwW i (i + 1) l1 l2 (Nat.lt_succ_self i)
      obtain ⟨vs, hv, av⟩ := id ldT
      have lv := dpa_len av
      rw [List.length_map] at lv
      walk_at "gs"
      refine ⟨p, rfl, hpT, fun v H13 ov hp13 k13 => ?_⟩
      have hv13 := k13.at_ _ _ hv (not_one nFp)
      have av13 := dpa_imm k13 _ _ (imms_d2 _) av
      walk_at "gs"
      refine i_new fun P fP => ?_
      have kP : Kp [] H13 (upd H13 P (.tup [V.int (e - b), V.int v])) := Kp.new fP
      have hP : SqT K (upd H13 P (.tup [V.int (e - b), V.int v])) P [V.int (e - b), V.int v] := SqT.of upd_same
      have hv14 := kP.at_ _ _ hv13 not_nil
      have av14 := dpa_imm kP _ _ (imms_d2 _) av13
      have hp14 := hp13.kp kP not_nil
      obtain ⟨H14, e14⟩ : ∃ H14, H14 = upd H13 P (.tup [V.int (e - b), V.int v]) := ⟨_, rfl⟩
      rw [← e14] at kP hP hv14 av14 hp14 ⊢
      walk_at "gs"
      have kA : Kp [F] H14 (upd H14 F (.lst (vs ++ [V.ref P]))) := kp_set hv14 (fun z => z)
      refine ⟨_, _, ps ++ [(e - b, v)], rfl, hp14.kp kA (not_one (Ne.symm nFp)), Kp.trans kk (Kp.trans kT.wide (Kp.trans (k13.mono fun b hb => List.mem_cons.mpr (.inl (List.mem_singleton.mp hb))) (Kp.trans kP.wide (kA.mono fun b hb => List.mem_cons_of_mem _ hb)))), ?_, by rw [List.length_append, lps]; rfl, fun q hq => ?_, ?_⟩
      · rw [List.map_append]
        exact ld_push (ws := [F]) (H0 := H14) kA av14 (imms_d2 _) upd_same (dp_mk2 (m := e - b) (n := v) (kA.seqT hP))
      · rcases List.mem_append.mp hq with h | h
        · exact bps q h
        · rw [List.mem_singleton.mp h]
          exact ⟨by show 0 ≤ e - b; omega, ov⟩
      · rw [List.getElem?_cons_succ, he, wide_app, eb]
        show some e = some (b + (e - b + 0))
        congr 1
        omega
    rintro σ H' ⟨o6, o7, ps, rfl, hpi, kk, ld, lps, bps, hw⟩
    have emin : min (List.map V.int (0 :: ns2)).length (List.map V.int (ns2 ++ [n])).length = ns2.length + 1 := by
      rw [List.length_map, List.length_map, List.length_append, List.length_cons, List.length_singleton]
      omega
    rw [emin] at lps hw
    have ew : wide ps = n := by
      rw [List.getElem?_cons_succ, List.getElem?_append_right (Nat.le_refl _), Nat.sub_self] at hw
      cases hw
      rfl
    obtain ⟨vs, hv, av⟩ := id ld
    have lv := dpa_len av
    rw [List.length_map] at lv
    walk_at "gs"
    refine i_elts (SqL.of hv) (fun G i H2 => Kp [] H' H2 ∧ LD K H2 G (((ps.take i).filter fun q => decide (0 < q.1)).map d2)) ?_ ?_ ?_ ?_
    · intro G fG
      exact ⟨Kp.new fG, [], upd_same, .nil⟩
    · rintro G i H2 fG _ ⟨k2, _⟩
      exact SqL.of (k2.at_ _ _ hv not_nil)
    · rintro G i y H2 fG hy ⟨k2, ld2⟩
      obtain ⟨d, hd, hdp⟩ := dpa_getV av hy
      obtain ⟨q, hq, rfl⟩ := map_get hd
      obtain ⟨t, rfl, hT⟩ := dp_pair (dp_imm k2 _ _ rfl hdp)
      have step := filter_step (f := fun q : Int × Int => decide (0 < q.1)) hq
      obtain ⟨vs2, hv2, av2⟩ := id ld2
      have lv2 := dpa_len av2
      have lf := List.length_filter_le (fun q : Int × Int => decide (0 < q.1)) (ps.take i)
      rw [List.length_take] at lf
      rw [List.length_map] at lv2
      walk_at "gs"
      refine i_dec (fun c => ?_) (fun c => ?_)
      · walk_at "gs"
        have kA : Kp [G] H2 (upd H2 G (.lst (vs2 ++ [V.ref t]))) := kp_set hv2 (fun z => z)
        refine ⟨_, hv2, small_sz (by omega), Kp.upd k2 fG, ?_⟩
        rw [step, if_pos (decide_eq_true c), List.map_append]
        exact ld_push (ws := [G]) (H0 := H2) kA av2 (imms_d2 _) upd_same (dp_mk2 (m := q.1) (n := q.2) (kA.seqT hT))
      · refine ⟨k2, ?_⟩
        rw [step, if_neg (by simpa using c), List.append_nil]
        exact ld2
    rintro G H2 fG ⟨k2, ld2⟩
    rw [lv, List.take_length] at ld2
    walk_at "gs"
    have lf := List.length_filter_le (fun q : Int × Int => decide (0 < q.1)) ps
    refine ⟨G, _, rfl, ld2.dp, by omega, fun q hq => ?_, fun l H3 fl k3 ld3 => ?_⟩
    · have := (List.mem_filter.mp hq).2
      rw [decide_eq_true_eq] at this
      exact this
    obtain ⟨c1, c2⟩ := cells_pos ps fun q hq => (bps q hq).1
    have ljn := jnd_len (ps.filter fun q => decide (0 < q.1)) (ps.filter fun q => decide (0 < q.1)).length
    rw [List.take_length] at ljn
    rw [jnd_rle, c1] at ld3 ljn
    have kH4 : Kp [p, C, s] H H4 := Kp.trans kC.wide k14
    have fFH : Fr H F := kH4.free fF
    have big : Kp [p, C, s, F] H H3 := by
      have a1 : Kp [p, C, s, F] H H4 := kH4.mono fun b hb => by
        simp only [List.mem_cons, List.not_mem_nil, or_false] at hb ⊢
        rcases hb with h | h | h
        · exact .inl h
        · exact .inr (.inl h)
        · exact .inr (.inr (.inl h))
      have a2 : Kp [p, C, s, F] H11 H' := kk.mono fun b hb => by
        simp only [List.mem_cons, List.not_mem_nil, or_false] at hb ⊢
        rcases hb with h | h
        · exact .inl h
        · exact .inr (.inr (.inr h))
      exact Kp.trans a1 (Kp.trans kF.wide (Kp.trans k511.wide (Kp.trans a2 (Kp.trans k2.wide k3.wide))))
    have kall : Kp [p, s] H H3 := big.dropAll fun b hb => by
      simp only [List.mem_cons, List.not_mem_nil, or_false] at hb ⊢
      rcases hb with h | h | h | h
      · exact .inl (.inl h)
      · exact .inr (by rw [h]; exact fC)
      · exact .inl (.inr h)
      · exact .inr (by rw [h]; exact fFH)
    have hs3' : H3 s = some (.lst ((ss ++ cuts).map V.int)) := k3.at_ _ _ (k2.at_ _ _ (kk.at_ _ _ hs11 (fun z => by
      rcases List.mem_cons.mp z with h | h
      · exact nsp h
      · exact nsF (List.mem_singleton.mp h))) not_nil) not_nil
    refine k l H3 (cells ps) (ss ++ cuts) ((hpi.kp k2 not_nil).kp k3 not_nil) kall hs3' (fun e => ne (List.append_eq_nil_iff.mp e).1) (by rw [List.length_append]; omega) (fun x hx => ?_) ld3 (by rw [c2, ew]) (by omega) (fun v hv => ?_) ((kH4.free (kF.free (k511.free (kk.free (k2.free fl))))))
    · rcases List.mem_append.mp hx with h | h
      · exact bs x h
      · exact bc x h
    · obtain ⟨q, hq, rfl⟩ := cells_mem hv
      exact (bps q hq).2

def cand (ws : List Int) (j : Nat) : List Int := ((List.range j).map fun k : Nat => (k : Int)).filter fun x => decide (x ∉ ws)
theorem cand_step {ws : List Int} {j : Nat} : cand ws (j + 1) = cand ws j ++ (if ((j : Nat) : Int) ∉ ws then [(j : Int)] else []) := by
  unfold cand
  rw [List.range_succ, List.map_append, List.filter_append]
  congr 1
  by_cases c : ((j : Nat) : Int) ∉ ws
  · rw [if_pos c]
    show List.filter _ [(j : Int)] = _
    rw [List.filter_cons, if_pos (decide_eq_true c), List.filter_nil]
  · rw [if_neg c]
    show List.filter _ [(j : Int)] = _
    rw [List.filter_cons, if_neg (by simpa using c), List.filter_nil]
theorem cand_len {ws : List Int} {j : Nat} : (cand ws j).length ≤ j := by
  unfold cand
  have := List.length_filter_le (fun x => decide (x ∉ ws)) ((List.range j).map fun k : Nat => (k : Int))
  rw [List.length_map, List.length_range] at this
  exact this
theorem cand_ne {ws : List Int} (h : ws.length ≤ 6) : cand ws 40 ≠ [] := fun e => by
  have nd : ((List.range 40).map fun k : Nat => (k : Int)).Nodup := by decide
  have := sub_len nd (m := ws) fun x hx => Classical.byContradiction fun n => by
    have : x ∈ cand ws 40 := List.mem_filter.mpr ⟨hx, decide_eq_true n⟩
    rw [e] at this
    cases this
  rw [List.length_map, List.length_range] at this
  omega
theorem cand_not {ws : List Int} {j : Nat} {x : Int} (h : x ∈ cand ws j) : x ∉ ws := by
  have := (List.mem_filter.mp h).2
  rwa [decide_eq_true_eq] at this
theorem cand_in {ws : List Int} {j : Nat} {x : Int} (h : x ∈ cand ws j) : 0 ≤ x ∧ x < j := by
  obtain ⟨k, hk, rfl⟩ := List.mem_map.mp (List.mem_filter.mp h).1
  have := List.mem_range.mp hk
  omega
def sp_lworlds (K : PySem.W.Frag) : Sp := fun vs H Q _ => ∃ p : Addr, vs = [.ref p] ∧ PotAt H p ∧ ∀ (l : Addr) (ws : List Int) (H' : Hp), PotAt H' p → Kp [p] H H' → H' l = some (.lst (ws.map V.int)) → ws.Nodup → 1 ≤ ws.length → ws.length ≤ 7 → (∀ x ∈ ws, 0 ≤ x ∧ x < 40) → Fr H l → Q (.ref l) H'
theorem sc_law_worlds : FnScope ["_law_pot_here", "_law_found", "_law_k", "_law_one"] ["_law_pot_here"] (defScope s_law_worlds) :=
  ⟨rfl, rfl, rfl, by decide +kernel, rfl, by decide +kernel, by decide +kernel⟩
theorem ok_law_worlds {P : Program} {w : World} {K : PySem.W.Frag} {mg : Str → Option Value} {base : Heap} (T : Txt K mg) :
    FnG P w K mg base 3 T.a_law_worlds T.d_law_worlds ["_law_pot_here"] (sp_lworlds K) := by
  refine okD T.F_law_worlds sc_law_worlds (fun vs H Q E h => ?_) (fun cdv A outer s H vs Q E hr h => ?_)
  · first
      | (obtain ⟨_, rfl, _⟩ := h; rfl)
      | (obtain ⟨_, _, rfl, _⟩ := h; rfl)
      | (obtain ⟨_, _, _, rfl, _⟩ := h; rfl)
      | (obtain ⟨_, _, _, _, rfl, _⟩ := h; rfl)
      | (obtain ⟨_, _, _, _, _, rfl, _⟩ := h; rfl)
      | (obtain ⟨_, _, _, _, _, _, rfl, _⟩ := h; rfl)
      | (obtain ⟨_, _, _, _, _, _, _, rfl, _⟩ := h; rfl)
      | (obtain ⟨_, _, _, _, _, _, _, _, rfl, _⟩ := h; rfl)
      | (obtain ⟨_, _, _, _, _, _, _, _, _, rfl, _⟩ := h; rfl)
      | (obtain ⟨_, _, _, _, _, _, _, _, _, _, rfl, _⟩ := h; rfl)
      | (obtain ⟨_, _, _, _, _, _, _, _, _, _, _, rfl, _⟩ := h; rfl)
      | (obtain ⟨_, _, _, _, _, _, _, _, _, _, _, _, rfl, _⟩ := h; rfl)
      | (obtain ⟨_, _, _, _, _, _, _, _, _, _, _, _, _, rfl, _⟩ := h; rfl)
      | (obtain ⟨_, _, _, _, _, _, _, _, _, _, _, _, _, _, rfl, _⟩ := h; rfl)
      | (obtain ⟨_, _, _, _, _, _, _, _, _, _, _, _, _, _, _, rfl, _⟩ := h; rfl)
      | (obtain ⟨_, _, _, _, _, _, _, _, _, _, _, _, _, _, _, _, rfl, _⟩ := h; rfl)
      | (obtain ⟨_, _, _, _, _, _, _, _, _, _, _, _, _, _, _, _, _, rfl, _⟩ := h; rfl)
      | (obtain ⟨_, _, _, _, _, _, _, _, _, _, _, _, _, _, _, _, _, _, rfl, _⟩ := h; rfl)
      | (obtain ⟨_, _, _, _, _, _, _, _, _, _, _, _, _, _, _, _, _, _, _, rfl, _⟩ := h; rfl)
  · obtain ⟨p, rfl, hp, k⟩ := h
    have cl_Memory := T.cl_Memory
    have na_Memory_pairs := T.na_Memory_pairs
    have na_Memory_wide := T.na_Memory_wide
    refine ⟨_, (pss_cons (ps_set (i := 1) sc_law_worlds.nd rfl (Or.inr rfl) (pe_lst pa_nil))
      (pss_cons (ps_for (passes_of rfl) rfl (pi_range1 (by rfl) T.n_range (pa_cons (pe_op (k_add (K := K) rfl) pe_int (d1 (ok_law_take T) (hr.mono (by decide)) (by rfl) T.m_law_take T.F_law_take.kp T.b_law_take passL (pa_cons (pv 0) (pa_cons pe_int pa_nil)))) pa_nil)) (pg_name (i := 2) sc_law_worlds.nd rfl (Or.inl rfl))
      (pss_one (ps_expr (pe_bm PySem.F.plainAttrs_list PySem.F.slot_list_append PySem.F.type_list_append mt_append (pv 1) (pa_cons (d1 (ok_law_among T) (hr.mono (by decide)) (by rfl) T.m_law_among T.F_law_among.kp T.b_law_among passL (pa_cons (pv 0) (pa_cons (pe_lc (own := [("_law_one", 3)]) (g := (gName 3)) rfl sc_law_worlds.nd (pi_range1 (by rfl) T.n_range (pa_cons pe_int pa_nil)) (blkOk_by (own := [("_law_one", 3)]) (N := ["_law_pot_here", "_law_found", "_law_k", "_law_one"]) (sc := defScope s_law_worlds) (by decide +kernel)) (fun _ _ _ _ _ => (pg_name (i := 3) sc_law_worlds.nd rfl (Or.inl rfl))) (fun _ _ _ _ _ => (pts_one (pt_cmpR (k_nin (K := K) rfl) (pv 3) (pv 1) (rfl)))) (fun _ _ _ _ _ => (pv 3))) pa_nil))) pa_nil)))))
      (pss_one (ps_ret (pv 1))))), ?_⟩
    dsimp only [cxOf, st_1, st_2, st_3, st_4, st_5, st_6, List.length_cons, List.length_nil, List.replicate_succ, List.replicate_zero, Nat.reduceAdd, Nat.reduceSub]
    walk_at "gs"
    refine i_new fun C fC => ?_
    have kC : Kp [] H (upd H C (.lst [])) := Kp.new fC
    have hC : (upd H C (.lst [])) C = some (.lst (([] : List Int).map V.int)) := upd_same
    have nCp : C ≠ p := Ne.symm (hp.ne fC)
    have hp1 := hp.kp kC not_nil
    obtain ⟨H1, e1⟩ : ∃ H1, H1 = upd H C (.lst []) := ⟨_, rfl⟩
    rw [← e1] at kC hC hp1 ⊢
    walk_at "gs"
    refine use_take hp1 (by decide) (by decide) (fun r H2 r0 r1 hp2 k2 => ?_)
    have hC2 := k2.at_ _ _ hC (not_one nCp)
    walk_at "gs"
    refine i_turns (by omega) (by omega) (fun i σ H' => ∃ (o2 : Option V) (ws : List Int), σ = [some (.ref p), some (.ref C), o2, none] ∧ PotAt H' p ∧ Kp [p, C] H1 H' ∧ H' C = some (.lst (ws.map V.int)) ∧ ws.length = i ∧ ws.Nodup ∧ ∀ x ∈ ws, 0 ≤ x ∧ x < 40) ?_ ?_ ?_
    · exact ⟨_, [], rfl, hp2, k2.mono fun b hb => List.mem_cons.mpr (.inl (List.mem_singleton.mp hb)), hC2, rfl, .nil, fun x hx => (nomatch hx)⟩
    · rintro i σ H3 hi ⟨o2, ws, rfl, hp3, k3, hC3, lw, nd, bw⟩
      have i7 : i < 7 := by omega
      walk_at "gs"
      refine i_reps (by decide) (by decide) (fun G j H' => Kp [] H3 H' ∧ H' G = some (.lst ((cand ws j).map V.int))) ?_ ?_ ?_
      · intro G fG
        exact ⟨Kp.new fG, upd_same⟩
      · rintro G j H4 fG hj ⟨k4, hG⟩
        have hC4 := k4.at_ _ _ hC3 not_nil
        have lc := cand_len (ws := ws) (j := j)
        have hj2 : j < 40 := by omega
        walk_at "gs"
        rw [cand_step]
        by_cases c : ((j : Nat) : Int) ∈ ws
        · rw [if_neg (by rw [decide_eq_true c]; exact Bool.false_ne_true)]
          refine ⟨k4, ?_⟩
          rw [if_neg (fun z => z c), List.append_nil]
          exact hG
        · rw [if_pos (by rw [decide_eq_false c]; rfl)]
          walk_at "gs"
          refine ⟨_, hG, small_sz (by rw [List.length_map]; omega), Kp.upd k4 fG, ?_⟩
          rw [if_pos c, snoc_int]
          exact upd_same
      rintro G H4 fG ⟨k4, hG⟩
      have hp4 := hp3.kp k4 not_nil
      have hC4 := k4.at_ _ _ hC3 not_nil
      have nGp : G ≠ p := Ne.symm (hp3.ne fG)
      have lc := cand_len (ws := ws) (j := 40)
      walk_at "gs"
      refine ⟨p, G, (cand ws 40).map V.int, rfl, hp4, SqL.of hG, nGp, by rw [List.length_map]; exact List.length_pos_iff.mpr (cand_ne (by omega)), by rw [List.length_map]; omega, fun v H5 hv hp5 k5 => ?_⟩
      obtain ⟨x, hx, rfl⟩ := List.mem_map.mp hv
      have hC5 := k5.at_ _ _ hC4 (not_one nCp)
      walk_at "gs"
      refine i_app hC5 (small_sz (by rw [List.length_map]; omega)) ?_
      walk_at "gs"
      have kA : Kp [C] H5 (upd H5 C (.lst (ws.map V.int ++ [V.int x]))) := kp_set hC5 (fun z => z)
      refine ⟨_, ws ++ [x], rfl, hp5.kp kA (not_one (Ne.symm nCp)), Kp.trans k3 (Kp.trans k4.wide (Kp.trans (k5.mono fun b hb => List.mem_cons.mpr (.inl (List.mem_singleton.mp hb))) (kA.mono fun b hb => List.mem_cons_of_mem _ hb))), by rw [snoc_int]; exact upd_same, by rw [List.length_append, lw]; rfl, ?_, fun y hy => ?_⟩
      · rw [List.nodup_append]
        refine ⟨nd, by simp, fun a ha b hb e => ?_⟩
        rw [List.mem_singleton.mp hb] at e
        exact cand_not hx (by rw [← e]; exact ha)
      · rcases List.mem_append.mp hy with h | h
        · exact bw y h
        · rw [List.mem_singleton.mp h]
          exact cand_in hx
    rintro σ H3 ⟨o2, ws, rfl, hp3, k3, hC3, lw, nd, bw⟩
    walk_at "gs"
    have kall : Kp [p] H H3 := (Kp.trans kC.wide k3).dropAll fun b hb => by
      simp only [List.mem_cons, List.not_mem_nil, or_false] at hb ⊢
      rcases hb with h | h
      · exact .inl h
      · exact .inr (by rw [h]; exact fC)
    exact k C ws H3 hp3 kall hC3 nd (by omega) (by omega) bw fC

/-! ### what is made anew, its heap by a name: refine a_new fun A H2 fA k2 hA => .. -/
section
def At (Q : VK) (v : V) (H : Hp) : Prop := Q v H
variable {K : PySem.W.Frag} {σ : L2.St} {H : Hp} {Q : VK} {o : HO} {tr : TA} {a b p : Addr} {xs ys : List V} {n m : Int} {lo hi : Option Int} {te : TE}
theorem a_new (h : ∀ p H', Fr H p → Kp [] H H' → H' p = some o → Q (.ref p) H') : New H fun p => At Q (.ref p) (upd H p o) :=
  fun p hp => h p _ ⟨hp⟩ (Kp.new ⟨hp⟩) upd_same
theorem a_tup (h : tr σ H fun xs H1 => xs.length ≤ sizeLine ∧ New H1 fun p => At Q (.ref p) (upd H1 p (.tup xs))) : tTup tr σ H Q := h
theorem a_lst (h : tr σ H fun xs H1 => xs.length ≤ sizeLine ∧ New H1 fun p => At Q (.ref p) (upd H1 p (.lst xs))) : tLst tr σ H Q := h
theorem a_dm (h0 : 0 < m) (h1 : m ≤ 10000000000000000000000000000000000000000000000000000000000000000000000) (h : New H fun q => At Q (.ref q) (upd H q (.tup [.int (n / m), .int (n % m)]))) : rDm [.int n, .int m] H Q := i_dm h0 h1 h
theorem a_listL (hs : SqL K H p xs) (h : New H fun l => At Q (.ref l) (upd H l (.lst xs))) : rListOf K [.ref p] H Q := i_listL hs h
theorem a_listT (hs : SqT K H p xs) (h : New H fun l => At Q (.ref l) (upd H l (.lst xs))) : rListOf K [.ref p] H Q := i_listT hs h
theorem a_slL (h : SqL K H a xs) (q : New H fun p => At Q (.ref p) (upd H p (.lst (cutV xs lo hi)))) : rSlL K (.ref a) lo hi H Q := i_slL h q
theorem a_addL (hx : H a = some (.lst xs)) (hy : H b = some (.lst ys)) (hz : xs.length + ys.length ≤ 1000000)
    (h : New H fun p => At Q (.ref p) (upd H p (.lst (xs ++ ys)))) : uAdd K (.ref a) (.ref b) H Q := i_addL hx hy hz h
/-- what is written, its heap by a name -/
theorem a_upd {u : HO} {P : Hp → Prop} (h : H p = some u) (nf : ¬ Fix u) (q : ∀ H', Kp [p] H H' → H' p = some o → P H') : P (upd H p o) := q _ (Kp.mut h nf (List.mem_singleton.mpr rfl)) upd_same
theorem a_app {y : V} (hs : H p = some (.lst xs)) (hz : xs.length < sizeLine) (h : ∀ H', Kp [p] H H' → H' p = some (.lst (xs ++ [y])) → Q .non H') : rAppend (.ref p) [y] H Q :=
  i_app hs hz (h _ (Kp.mut hs (fun z => z) (List.mem_singleton.mpr rfl)) upd_same)
end
--%%M
local macro_rules | `(tactic| walk_at "n1") => `(tactic| first
  | (with_reducible refine a_tup ?_)
  | (with_reducible refine a_lst ?_)
  | ((with_reducible refine a_dm ?c ?d ?_); (case c => omega); (case d => omega))
  | ((with_reducible apply a_listL ?h ?g); (case h => walk_at "g_sq"))
  | ((with_reducible apply a_listT ?h ?g); (case h => walk_at "g_st"))
  | ((with_reducible apply a_slL ?h ?_); (case h => walk_at "g_sq"))
  | ((with_reducible apply a_addL ?h ?g ?z ?_); (case h => walk_at "g_hp"); (case g => walk_at "g_hp"); (case z => (try simp only [List.length_append, List.length_cons, List.length_nil, List.length_map]); omega))
  | (walk_at "g1"))
local macro_rules | `(tactic| walk_at "nr") => `(tactic| first | ((walk_at "n1"); (walk_at "nr")) | skip)
local macro_rules | `(tactic| walk_at "ns") => `(tactic| (walk_at "nr"))
--%%E

/-! ### sorted(d.items()), d a dict of numbers by numbers -/
section
open PySem.Calls PyProof.Rows PySem.Spec PyProof
variable {X : Cx}
theorem prs_idx {H : Hp} : ∀ {as : List Addr} {ps : List (Int × Int)}, as.length = ps.length → (∀ (j : Nat) (b : Addr) (q : Int × Int), as[j]? = some b → ps[j]? = some q → H b = some (.tup [.int q.1, .int q.2])) → PrsAt H (as.map V.ref) ps
  | [], [], _, _ => trivial
  | a :: as, q :: ps, l, h => ⟨⟨a, rfl, h 0 a q rfl rfl⟩, prs_idx (by simpa using l) fun j b q hj hq => h (j + 1) b q (by rw [List.getElem?_cons_succ]; exact hj) (by rw [List.getElem?_cons_succ]; exact hq)⟩
  | [], _ :: _, l, _ => by simp at l
  | _ :: _, [], l, _ => by simp at l
def SItems (K : PySem.W.Frag) (x : V) (H1 : Hp) (Q : VK) : Prop := ∃ (a : Addr) (ps : List (Int × Int)), x = .ref a ∧ H1 a = some (.dK (ps.map kN)) ∧ (ps.map (·.1)).Nodup ∧ ∀ (rs : List (Int × Int)) (R : Addr) (H' : Hp), Fr H1 R → Kp [] H1 H' → LD K H' R (rs.map d2) → rs.Perm ps → rs.Pairwise ltQ → Q (.ref R) H'
def tSortItems (K : PySem.W.Frag) (td : TE) : TE := fun σ H Q => td σ H fun x H1 => SItems K x H1 Q
theorem i_sortItems {K : PySem.W.Frag} {td : TE} {σ : L2.St} {H : Hp} {Q : VK} (h : td σ H fun x H1 => SItems K x H1 Q) : tSortItems K td σ H Q := h
theorem pe_sortItems {K : PySem.W.Frag} {o : Expr} {p pos apos mpos : Pos} {td : TE} (hK : X.K = K) (calm : X.calm = true) (hg : Gl X "sorted") (hm : X.mg "sorted" = none) (hd : PE X o td) (base : attributeBase o "items" X.env (eval o X.env) = eval o X.env := by rfl) (line : (apos.endLine == mpos.line) = true := by rfl)
    (one : starEach [Expr.Call (.Attribute o "items" apos) [] [] mpos] X.env = (false, eval (Expr.Call (.Attribute o "items" apos) [] [] mpos) X.env) :: starEach [] X.env := by rfl) :
    PE X (.Call (.Name "sorted" p) [.Call (.Attribute o "items" apos) [] [] mpos] [] pos) (tSortItems K td) := by
  subst hK
  refine ⟨fun pins s σ H Q I q0 => ?_⟩
  refine Call_ (ld_blt I hg hm boot_sorted ?_)
  refine PyProof.Rows.callWith_builtin1 (PyProof.Rows.args_cons (wpAny_Call_method0_late base line (thn (hd.run pins s σ H _ I q0) fun v s1 z => ?_)) one) one rfl
  obtain ⟨x, H1, I1, r1, a, ps, ex, ha, nd, q⟩ := z
  subst ex
  obtain rfl : v = Value.ref a := r1
  obtain ⟨wide, low, vs, rel, dof⟩ := dk_of I1.hok ha
  obtain ⟨ep, dat⟩ := dof.dictAt
  obtain ⟨ob, es, got, ex, hdat, hko, hpr, hnd⟩ := id dat
  refine ⟨"dict", "dict.items", PySem.F.plainAttrs_dict, PySem.F.slot_dict_items, PySem.F.type_dict_items, ⟨ob, got, ex.1⟩, fun b e => ?_, Calls.callWith_builtin rfl (PySem.evalArgs_none ?_)⟩
  · cases e
    exact ⟨ob, got, ex.2.1⟩
  refine call_meetsIn PySem.F.slot_dict_items ⟨ob, got, ex.1⟩ PySem.F.entry_dict_items (PySem.F.args_dict_items_1 _) (meets_dict_items (mixKind X.prog X.w) a low) ⟨⟨vs, dof⟩, ?_⟩
  refine PyProof.Rows.args_nil ?_
  have older : ∀ b u, s1.heap.get? b = some u → (s1.heap.push { cls := .type "dict_items", data := .fields #[.ref a] }).get? b = some u := fun b u e => Heap.get?_push_of_some _ e
  have I2 : Inv X pins σ H1 { s1 with heap := s1.heap.push { cls := .type "dict_items", data := .fields #[.ref a] } } := I1.kept (t' := s1.toks) older
  have raw : (s1.heap.push { cls := .type "dict_items", data := .fields #[.ref a] }).DictRaw a es ep := ⟨ob, older _ _ got, ex, hdat⟩
  have l1 : es.size = vs.length := by rw [← hpr.length]; exact Array.length_toList.symm
  have l2 : vs.length = ps.length := by rw [← rel.length, List.length_map]
  refine call_function_entry kind_sorted plain_sorted entry_sorted (args_sorted1 _) ?_
  unfold Builtin.«sorted»
  refine wpAny_bind (m := checkCount "sorted" 1 1 _) (wpAny_pure ?_)
  refine wpAny_bind (PySem.W.dil_collect (A := X.A.in1) (es := es) (ep := ep) (r := s1.heap.objs.size) (d := a) (I.ok.hd calm) ⟨_, Heap.get?_push_size _ rfl, rfl, rfl⟩ raw (by rw [l1, ← rel.length]; exact wide) fun h' tk as hk las hG => ?_)
  have prj : ∀ (j : Nat) (b : Addr), as[j]? = some b → ∃ q t1 t2, ps[j]? = some q ∧ h'.get? b = some { cls := .type "tuple", data := .seq #[.int q.1 t1, .int q.2 t2] } := by
    intro j b hj
    obtain ⟨hlt, hg⟩ := hG.pairs j b hj
    have hvj : vs[j]? = some vs[j] := List.getElem?_eq_getElem (by omega)
    obtain ⟨⟨k, u⟩, ez⟩ : ∃ z, z = vs[j] := ⟨_, rfl⟩
    rw [← ez] at hvj
    obtain ⟨h1, h2⟩ := hpr.get? (e := es[j]) (by simp [hlt]) hvj
    obtain ⟨x, e1, e2⟩ := KV.at' rel hvj
    obtain ⟨q, hq, eq⟩ := map_get e1
    cases eq
    obtain ⟨t1, et1⟩ := (show ∃ t, es[j].key = Value.int q.1 t from relV_key (show keyIs (Sum.inl q.1) es[j].key = true from h1))
    obtain ⟨t2, et2⟩ := (show ∃ t, u = Value.int q.2 t from e2)
    exact ⟨q, t1, t2, hq, by rw [hg, et1, h2, et2]⟩
  have I0 : Inv X pins σ H1 { s1 with heap := h', toks := tk } := I2.kept hk
  have ndas : as.Nodup := hG.rise.imp fun h => Nat.ne_of_lt h
  obtain ⟨H2, I3, mono, tups⟩ := L2.DX.takeT (P := fun b vs => ∃ (j : Nat) (q : Int × Int), as[j]? = some b ∧ ps[j]? = some q ∧ vs = [V.int q.1, V.int q.2]) I2 as H1 I0 ndas fun b hb => by
    obtain ⟨j, hj⟩ := List.mem_iff_getElem?.mp hb
    obtain ⟨q, t1, t2, hq, hg⟩ := prj j b hj
    have hle := hG.above b hb
    refine ⟨Nat.le_of_lt hle, I2.hok.fresh (Nat.le_of_lt hle), [V.int q.1, V.int q.2], ⟨j, q, hj, hq, rfl⟩, fun H2 => ?_⟩
    exact ⟨by show 2 ≤ sizeLine; decide, [.int q.1 t1, .int q.2 t2], .cons ⟨t1, rfl⟩ (.cons ⟨t2, rfl⟩ .nil), ⟨_, hg, rfl, 0, rfl⟩⟩
  have hz : as.length ≤ sizeLine := by
    rw [las, l1, ← rel.length]
    exact wide
  refine wpAny_bind (wpAny_newList ?_ (by rw [List.length_map]; exact hz))
  have px : PrsAt H2 (as.map V.ref) ps := prs_idx (by omega) fun j b q hj hq => by
    obtain ⟨vs', ⟨j', q', hj', hq', ev⟩, h2⟩ := tups b (List.mem_of_getElem? hj)
    have e := (List.getElem?_inj (List.getElem?_eq_some_iff.mp hj).1 ndas).mp (hj.trans hj'.symm)
    subst e
    rw [hq] at hq'
    cases hq'
    rw [h2, ev]
  have hob : (h'.push { cls := .type "list", data := .seq (as.map Value.ref).toArray }).get? h'.objs.size = some (seqObj "list" (as.map Value.ref).toArray 0) := Heap.get?_push_size _ rfl
  have hpair : ∀ v ∈ as.map Value.ref, Srt.IsPair (h'.push { cls := .type "list", data := .seq (as.map Value.ref).toArray }) v (kOf H2 (backV v)).1 (kOf H2 (backV v)).2 := fun v hv => by
    obtain ⟨b, hb, rfl⟩ := List.mem_map.mp hv
    obtain ⟨t, et, ht⟩ := px.key (V.ref b) (List.mem_map.mpr ⟨b, hb, rfl⟩)
    cases et
    obtain ⟨_, its2, r2, ob2, ho, hc, n, hd⟩ := I3.hok _ _ ht
    obtain ⟨u1, u2, rfl, ri, rj⟩ := vals2 r2
    obtain ⟨t1, rfl⟩ := ri
    obtain ⟨t2, rfl⟩ := rj
    exact ⟨b, ob2, t1, t2, n, rfl, Heap.get?_push_of_some _ ho, hc, hd⟩
  have relv : Vals (as.map V.ref) (as.map Value.ref) := by
    have := vals_back (us := as.map Value.ref) fun u hu => by
      obtain ⟨b, _, e⟩ := List.mem_map.mp hu
      exact ⟨b, e.symm⟩
    rw [List.map_map] at this
    exact this
  have I4 : Inv X pins σ (upd H2 h'.objs.size (.lst (as.map V.ref))) { s1 with heap := h'.push { cls := .type "list", data := .seq (as.map Value.ref).toArray }, toks := tk } :=
    I3.lnew (its := as.map Value.ref) (t' := tk) relv (by rw [List.length_map]; exact hz)
  have fD : H2 h'.objs.size = none := I3.fresh
  obtain ⟨D, hD⟩ : ∃ D, D = h'.objs.size := ⟨_, rfl⟩
  rw [← hD] at I4 fD hob ⊢
  refine wpAny_bind (wpAny_holding (wpAny_call_entry PyProof.Rows.slot_list_sort ⟨_, hob, rfl⟩ PyProof.Rows.entry_list_sort
    (SrtO.list_sort_ord (SrtO.swo_lex fun v => kOf H2 (backV v)) hob (by rw [List.length_map]; exact hz) (fun h2 => SrtO.pairs_sortableO (k := fun v => kOf H2 (backV v)) (by omega) hpair fun o e => ?_) fun out h1 h2 => ⟨.none, rfl, ?_⟩) (PyProof.Rows.args_list_sort _)))
  · have e' : some o = some (seqObj "list" (as.map Value.ref).toArray 0) := e.symm.trans hob
    cases e'
    intro c
    exact absurd (Value.type.inj c) (by decide)
  have h3 : ∀ u ∈ out, ∃ a, u = Value.ref a := fun u hu => by
    obtain ⟨b, _, e⟩ := List.mem_map.mp (h2.perm.mem_iff.mp hu)
    exact ⟨b, e.symm⟩
  obtain ⟨ep2, he'⟩ := PyProof.Rows.sortedHeap_at (vs := as.map Value.ref) (out := out.toArray) hob
  have hlen : (out.map backV).length ≤ sizeLine := by
    rw [List.length_map, h2.perm.length_eq, List.length_map]
    exact hz
  have I5 := I4.write (x := D) (e := D) (o := .lst (out.map backV)) (t' := tk) (by rw [upd_same]; trivial) (.inl rfl) (fun b u hb hu => by
    rw [PyProof.Rows.sortedHeap_old hb (Heap.lt_size hu)]; exact hu) ⟨_, he'⟩ ⟨hlen, out, ep2, vals_back h3, he'⟩
  rw [upd_upd] at I5
  have kH : Kp [] H1 H2 := ⟨fun a o e _ => mono a o e, fun a o e _ => mono a o e, fun a o e => ⟨o, mono a o e⟩⟩
  have kD : Kp [] H2 (upd H2 D (.lst (out.map backV))) := Kp.new ⟨fD⟩
  have pm : (out.map backV).Perm (as.map V.ref) := by
    have := h2.perm.map backV
    rw [List.map_map] at this
    exact this
  have key : ∀ x ∈ out.map backV, ∃ t, x = .ref t ∧ H2 t = some (.tup [.int (kOf H2 x).1, .int (kOf H2 x).2]) := fun x hx => px.key x (pm.mem_iff.mp hx)
  have pm2 : ((out.map backV).map (kOf H2)).Perm ps := by
    have e := pm.map (kOf H2)
    rw [px.map] at e
    exact e
  refine wpAny_pure ⟨_, rfl, .ref D, _, I5, rfl, q ((out.map backV).map (kOf H2)) D _ (kH.free ⟨fD⟩) (Kp.trans kH kD) ⟨_, upd_same, (PrsAt.kp kD (PrsAt.of key)).dpa⟩ pm2 ?_⟩
  have ndp : ps.Nodup := (List.pairwise_map.mp nd).imp fun h e => h (by rw [e])
  have nd2 : ((out.map backV).map (kOf H2)).Nodup := pm2.nodup_iff.mpr ndp
  have s3 : ((out.map backV).map (kOf H2)).Pairwise fun p q => SrtO.lexB q p = false := by
    rw [List.map_map]
    exact List.pairwise_map.mpr h1
  refine (s3.and nd2).imp fun {p q} z => ?_
  have z1 := SrtO.lexB_no.mp z.1
  have z2 : p ≠ q := z.2
  unfold ltQ
  by_cases c : p.1 = q.1
  · refine .inr ⟨c, ?_⟩
    by_cases c2 : p.2 = q.2
    · exact absurd (Prod.ext c c2) z2
    · omega
  · omega
end

theorem ltQ_tri (p q : Int × Int) : p = q ∨ ltQ p q ∨ ltQ q p := by
  unfold ltQ
  by_cases c : p = q
  · exact .inl c
  · have : p.1 ≠ q.1 ∨ p.2 ≠ q.2 := by
      refine Classical.byContradiction fun z => c ?_
      rw [not_or, Decidable.not_not, Decidable.not_not] at z
      exact Prod.ext z.1 z.2
    omega
theorem ltQ_tr {p q r : Int × Int} (h : ltQ p q) (k : ltQ q r) : ltQ p r := by
  unfold ltQ at *
  omega
theorem sorted_ex : ∀ l : List (Int × Int), ∃ rs : List (Int × Int), rs.Pairwise ltQ ∧ ∀ q, q ∈ rs ↔ q ∈ l
  | [] => ⟨[], .nil, fun q => Iff.rfl⟩
  | a :: l => by
    obtain ⟨rs, h1, h2⟩ := sorted_ex l
    haveI : DecidableRel ltQ := fun p q => inferInstanceAs (Decidable (p.1 < q.1 ∨ (p.1 = q.1 ∧ p.2 < q.2)))
    refine ⟨rs.filter (fun x => decide (ltQ x a)) ++ a :: rs.filter (fun x => decide (ltQ a x)), ?_, fun q => ?_⟩
    · rw [List.pairwise_append, List.pairwise_cons]
      refine ⟨h1.filter _, ⟨fun x hx => ?_, h1.filter _⟩, fun x hx y hy => ?_⟩
      · have := (List.mem_filter.mp hx).2
        rw [decide_eq_true_eq] at this
        exact this
      · have l1 := (List.mem_filter.mp hx).2
        rw [decide_eq_true_eq] at l1
        rcases List.mem_cons.mp hy with e | hy
        · rw [e]
          exact l1
        · have l2 := (List.mem_filter.mp hy).2
          rw [decide_eq_true_eq] at l2
          exact ltQ_tr l1 l2
    · rw [List.mem_append, List.mem_cons, List.mem_filter, List.mem_filter, decide_eq_true_eq, decide_eq_true_eq, List.mem_cons, h2]
      constructor
      · rintro (⟨h, _⟩ | h | ⟨h, _⟩)
        · exact .inr h
        · exact .inl h
        · exact .inr h
      · rintro (h | h)
        · exact .inr (.inl h)
        · rcases ltQ_tri q a with e | l | l
          · exact .inr (.inl e)
          · exact .inl ⟨h, l⟩
          · exact .inr (.inr ⟨h, l⟩)
/-- sorted, no two alike -/
noncomputable def srtP (l : List (Int × Int)) : List (Int × Int) := (sorted_ex l).choose
theorem srtP_eq {l rs : List (Int × Int)} (pm : rs.Perm l) (h : rs.Pairwise ltQ) : rs = srtP l := by
  obtain ⟨a, b⟩ := (sorted_ex l).choose_spec
  exact ltQ_uniq h a fun q => by rw [pm.mem_iff]; exact (b q).symm
/-- a column as it is shown -/
noncomputable def dCol (q : Int × List (Int × Int)) : PyData := .tuple [.int q.1, .list ((srtP q.2).map d2)]

/-- tuples, how many and a list of pairs; none of these lists is D -/
def ShVs (K : PySem.W.Frag) (D : Addr) (H : Hp) : List V → List (Int × List (Int × Int)) → Prop
  | [], [] => True
  | x :: xs, q :: qs => (∃ t l, x = .ref t ∧ H t = some (.tup [.int q.1, .ref l]) ∧ LD K H l ((srtP q.2).map d2) ∧ l ≠ D) ∧ ShVs K D H xs qs
  | _, _ => False
theorem ShVs.kp {K : PySem.W.Frag} {D : Addr} {H H' : Hp} {ws : List Addr} (k : Kp ws H H') (hw : ∀ b ∈ ws, b = D) : ∀ {xs : List V} {qs : List (Int × List (Int × Int))}, ShVs K D H xs qs → ShVs K D H' xs qs
  | [], [], _ => trivial
  | _ :: _, _ :: _, ⟨⟨t, l, e, h1, h2, n⟩, r⟩ => ⟨⟨t, l, e, k.fix _ _ h1 trivial, h2.kp k (imms_d2 _) (fun z => n (hw _ z)), n⟩, ShVs.kp k hw r⟩
  | [], _ :: _, h => h.elim
  | _ :: _, [], h => h.elim
theorem ShVs.snoc {K : PySem.W.Frag} {D : Addr} {H : Hp} {t l : Addr} {q : Int × List (Int × Int)} (h1 : H t = some (.tup [.int q.1, .ref l])) (h2 : LD K H l ((srtP q.2).map d2)) (n : l ≠ D) : ∀ {xs : List V} {qs : List (Int × List (Int × Int))}, ShVs K D H xs qs → ShVs K D H (xs ++ [.ref t]) (qs ++ [q])
  | [], [], _ => ⟨⟨t, l, rfl, h1, h2, n⟩, trivial⟩
  | _ :: _, _ :: _, ⟨a, r⟩ => ⟨a, ShVs.snoc h1 h2 n r⟩
  | [], _ :: _, h => h.elim
  | _ :: _, [], h => h.elim
theorem ShVs.dpa {K : PySem.W.Frag} {D : Addr} {H : Hp} : ∀ {xs : List V} {qs : List (Int × List (Int × Int))}, ShVs K D H xs qs → DpAll K H xs (qs.map dCol)
  | [], [], _ => .nil
  | _ :: _, q :: _, ⟨⟨t, l, e, h1, h2, n⟩, r⟩ => by
    subst e
    exact .cons (.tup (SqT.of h1) (.cons (.int _) (.cons h2.dp .nil))) (ShVs.dpa r)
  | [], _ :: _, h => h.elim
  | _ :: _, [], h => h.elim
theorem ShVs.len {K : PySem.W.Frag} {D : Addr} {H : Hp} : ∀ {xs : List V} {qs : List (Int × List (Int × Int))}, ShVs K D H xs qs → xs.length = qs.length
  | [], [], _ => rfl
  | _ :: _, _ :: _, h => by rw [List.length_cons, List.length_cons, ShVs.len h.2]
  | [], _ :: _, h => h.elim
  | _ :: _, [], h => h.elim
def okCol (q : Int × List (Int × Int)) : Prop := okI q.1 ∧ q.2.length ≤ 7 ∧ (q.2.map (·.1)).Nodup ∧ ∀ z ∈ q.2, okI z.1 ∧ okI z.2
theorem srtP_perm {l : List (Int × Int)} (nd : (l.map (·.1)).Nodup) : (srtP l).Perm l := by
  obtain ⟨a, b⟩ := (sorted_ex l).choose_spec
  have n1 : (srtP l).Nodup := a.imp fun {p q} h e => by
    subst e
    unfold ltQ at h
    omega
  have n2 : l.Nodup := (List.pairwise_map.mp nd).imp fun h e => h (by rw [e])
  exact (List.perm_ext_iff_of_nodup n1 n2).mpr b
theorem dCol_shw {q : Int × List (Int × Int)} (h : okCol q) : shw (dCol q) = true := by
  unfold dCol
  have e : shws ((srtP q.2).map d2) = true := shws_pairs _ fun z hz => h.2.2.2 z ((srtP_perm h.2.2.1).mem_iff.mp hz)
  simp only [shw, shws, e, Bool.and_true, Bool.and_eq_true, decide_eq_true_eq]
  exact h.1
theorem dCol_cw {q : Int × List (Int × Int)} (h : okCol q) : cw (dCol q) ≤ 29100 := by
  unfold dCol
  have e := (srtP_perm h.2.2.1).length_eq
  have := h.2.1
  simp only [cw, cws, cws_pairs, e]
  omega
theorem dCol_dp {q : Int × List (Int × Int)} : (dCol q).depth ≤ 4 := by
  unfold dCol
  have := depth_pairs (srtP q.2)
  simp only [PyData.depth, PyData.depthAll]
  omega
theorem dCols_shw : ∀ {qs : List (Int × List (Int × Int))}, (∀ q ∈ qs, okCol q) → shws (qs.map dCol) = true
  | [], _ => rfl
  | q :: qs, h => by
    simp only [List.map_cons, shws, dCol_shw (h q List.mem_cons_self), dCols_shw fun z hz => h z (List.mem_cons_of_mem _ hz), Bool.and_true]
theorem dCols_cw : ∀ {qs : List (Int × List (Int × Int))}, (∀ q ∈ qs, okCol q) → cws (qs.map dCol) ≤ 29102 * qs.length
  | [], _ => Nat.zero_le _
  | q :: qs, h => by
    have a := dCol_cw (h q List.mem_cons_self)
    have b := dCols_cw fun z hz => h z (List.mem_cons_of_mem _ hz)
    simp only [List.map_cons, cws, List.length_cons]
    omega
theorem dCols_dp : ∀ {qs : List (Int × List (Int × Int))}, PyData.depthAll (qs.map dCol) ≤ 4
  | [] => Nat.zero_le _
  | q :: qs => by
    have a := dCol_dp (q := q)
    have b := dCols_dp (qs := qs)
    simp only [List.map_cons, PyData.depthAll]
    omega
def sp_lshown (K : PySem.W.Frag) : Sp := fun vs H Q _ => ∃ (a : Addr) (xs : List V) (qs : List (Int × List (Int × Int))), vs = [.ref a] ∧ H a = some (.lst xs) ∧ ColVs H xs qs ∧ qs.length ≤ 168 ∧ (∀ q ∈ qs, okCol q) ∧
  ∀ H', Kp [] H H' → Q (.str (PyData.list (qs.map dCol)).shown) H'
theorem sc_law_shown : FnScope ["_law_some", "_law_many", "_law_numbers"] ["_law_some"] (defScope s_law_shown) :=
  ⟨rfl, rfl, rfl, by decide +kernel, rfl, by decide +kernel, by decide +kernel⟩
theorem ok_law_shown {P : Program} {w : World} {K : PySem.W.Frag} {mg : Str → Option Value} {base : Heap} (T : Txt K mg) :
    FnG P w K mg base 1 T.a_law_shown T.d_law_shown ["_law_some"] (sp_lshown K) := by
  refine okD T.F_law_shown sc_law_shown (fun vs H Q E h => ?_) (fun cdv A outer s H vs Q E hr h => ?_)
  · first
      | (obtain ⟨_, rfl, _⟩ := h; rfl)
      | (obtain ⟨_, _, rfl, _⟩ := h; rfl)
      | (obtain ⟨_, _, _, rfl, _⟩ := h; rfl)
      | (obtain ⟨_, _, _, _, rfl, _⟩ := h; rfl)
      | (obtain ⟨_, _, _, _, _, rfl, _⟩ := h; rfl)
      | (obtain ⟨_, _, _, _, _, _, rfl, _⟩ := h; rfl)
      | (obtain ⟨_, _, _, _, _, _, _, rfl, _⟩ := h; rfl)
      | (obtain ⟨_, _, _, _, _, _, _, _, rfl, _⟩ := h; rfl)
      | (obtain ⟨_, _, _, _, _, _, _, _, _, rfl, _⟩ := h; rfl)
      | (obtain ⟨_, _, _, _, _, _, _, _, _, _, rfl, _⟩ := h; rfl)
      | (obtain ⟨_, _, _, _, _, _, _, _, _, _, _, rfl, _⟩ := h; rfl)
      | (obtain ⟨_, _, _, _, _, _, _, _, _, _, _, _, rfl, _⟩ := h; rfl)
      | (obtain ⟨_, _, _, _, _, _, _, _, _, _, _, _, _, rfl, _⟩ := h; rfl)
      | (obtain ⟨_, _, _, _, _, _, _, _, _, _, _, _, _, _, rfl, _⟩ := h; rfl)
      | (obtain ⟨_, _, _, _, _, _, _, _, _, _, _, _, _, _, _, rfl, _⟩ := h; rfl)
      | (obtain ⟨_, _, _, _, _, _, _, _, _, _, _, _, _, _, _, _, rfl, _⟩ := h; rfl)
      | (obtain ⟨_, _, _, _, _, _, _, _, _, _, _, _, _, _, _, _, _, rfl, _⟩ := h; rfl)
      | (obtain ⟨_, _, _, _, _, _, _, _, _, _, _, _, _, _, _, _, _, _, rfl, _⟩ := h; rfl)
      | (obtain ⟨_, _, _, _, _, _, _, _, _, _, _, _, _, _, _, _, _, _, _, rfl, _⟩ := h; rfl)
  · obtain ⟨a, xs, qs, rfl, ha, cv, lq, okq, k⟩ := h
    have cl_Memory := T.cl_Memory
    have na_Memory_pairs := T.na_Memory_pairs
    have na_Memory_wide := T.na_Memory_wide
    refine ⟨_, (pss_one (ps_ret (pe_callB (k_repr (K := K) rfl hr.g hr.r.units) (by rfl) T.n_repr (by decide +kernel) (pa_cons (pe_lc (own := [("_law_many", 1), ("_law_numbers", 2)]) (g := (gTup K 2 (gCons (gName 1) (gCons (gName 2) gNil)))) (tt := tYes) rfl sc_law_shown.nd (k_plist (K := K) rfl (pv 0)) (blkOk_by (own := [("_law_many", 1), ("_law_numbers", 2)]) (N := ["_law_some", "_law_many", "_law_numbers"]) (sc := defScope s_law_shown) (by decide +kernel)) (fun _ _ _ _ _ => (k_gtup (K := K) 2 rfl rfl (pgs_cons (pg_name (i := 1) sc_law_shown.nd rfl (Or.inl rfl)) (pgs_cons (pg_name (i := 2) sc_law_shown.nd rfl (Or.inl rfl)) pgs_nil)))) (fun _ _ _ _ _ => pts_nil) (fun _ _ _ _ _ => (pe_tup (pa_cons (pv 1) (pa_cons (pe_sortItems rfl rfl (by rfl) T.n_sorted (pv 2)) pa_nil))))) pa_nil)))), ?_⟩
    dsimp only [cxOf, st_1, st_2, st_3, st_4, st_5, st_6, List.length_cons, List.length_nil, List.replicate_succ, List.replicate_zero, Nat.reduceAdd, Nat.reduceSub]
    walk_at "ns"
    refine i_elts (SqL.of ha) (fun D j H' => Kp [] H H' ∧ ∃ ys, H' D = some (.lst ys) ∧ ShVs K D H' ys (qs.take j)) ?_ ?_ ?_ ?_
    · intro D fD
      exact ⟨Kp.new fD, [], upd_same, trivial⟩
    · rintro D i H' fD _ ⟨k1, _⟩
      exact SqL.of (k1.at_ _ _ ha not_nil)
    · rintro D j x H2 fD hx ⟨k2, ys, hD, sv⟩
      obtain ⟨q, t, d, hq, rfl, ht, hd⟩ := cv.get hx
      have ht2 := k2.at_ _ _ ht not_nil
      have hd2 := k2.at_ _ _ hd not_nil
      have ok := okq q (List.mem_of_getElem? hq)
      have hj := (List.getElem?_eq_some_iff.mp hq).1
      have ly := sv.len
      rw [List.length_take] at ly
      walk_at "ns"
      refine i_sortItems ?_
      walk_at "ns"
      refine ⟨d, q.2, rfl, hd2, ok.2.2.1, fun rs R H3 fR k3 ld pm pw => ?_⟩
      have er : rs = srtP q.2 := srtP_eq pm pw
      subst er
      have nRD : R ≠ D := Ne.symm (fr_ne hD fR)
      walk_at "ns"
      refine a_new fun P H4 fP k4 hP => ?_
      have k24 := Kp.trans k3 k4
      have hD4 := k24.at_ _ _ hD not_nil
      walk_at "ns"
      have kA : Kp [D] H4 (upd H4 D (.lst (ys ++ [V.ref P]))) := kp_set hD4 (fun z => z)
      have nPD : P ≠ D := Ne.symm (fr_ne (k3.at_ _ _ hD not_nil) fP)
      refine ⟨ys, hD4, small_sz (by omega), Kp.upd (Kp.trans k2 k24) fD, ys ++ [.ref P], upd_same, ?_⟩
      rw [List.take_add_one, hq]
      refine ShVs.snoc (kA.fix _ _ hP trivial) ((ld.kp k4 (imms_d2 _) not_nil).kp kA (imms_d2 _) (not_one nRD)) nRD ?_
      exact (sv.kp k24 fun b hb => nomatch hb).kp kA fun b hb => List.mem_singleton.mp hb
    rintro D H2 fD ⟨k2, ys, hD, sv⟩
    have lx := cv.len
    rw [lx, List.take_length] at sv
    have dp := dCols_dp (qs := qs)
    have cc := dCols_cw okq
    refine i_repr (.lst (SqL.of hD) sv.dpa) ?_ ?_ ?_ (k H2 k2)
    · simp only [shw]
      exact dCols_shw okq
    · simp only [PyData.depth]
      omega
    · simp only [cw]
      exact Nat.le_trans (show _ ≤ 15472002 by omega) (by decide)

/-! ### d.update(e), two dicts -/
section
open PyProof PyProof.Rows PySem.Calls PySem.Spec
def rUpdD : V → List V → Hp → VK → Prop := fun x vs H Q => ∃ (a b : Addr) (kvs more : List (Key × V)), x = .ref a ∧ vs = [.ref b] ∧ a ≠ b ∧ H a = some (.dK kvs) ∧ H b = some (.dK more) ∧ kvs.length + more.length ≤ 1000000 ∧ Q .non (upd H a (.dK (mergeK kvs more)))
theorem mtd_update {X : Cx} : MtR X "dict.update" rUpdD := by
  intro pins s σ H x vs v us Q I rx rv h
  obtain ⟨a, b, kvs, more, ex, ev, ne, ha, hb, hl, q⟩ := h
  subst ex ev
  obtain rfl : v = Value.ref a := rx
  obtain ⟨u, eu, ru⟩ := vals1 rv
  subst eu
  obtain rfl : u = Value.ref b := ru
  obtain ⟨wa, la, vs1, rel1, dof1⟩ := dk_of I.hok ha
  obtain ⟨wb, lb, vs2, rel2, dof2⟩ := dk_of I.hok hb
  have l1 := rel1.length
  have l2 := rel2.length
  refine call_meetsIn PySem.F.slot_dict_update dof1.typeIs PySem.F.entry_dict_update (PySem.F.args_dict_update_2 _ _) (meets_dict_update (mixKind X.prog X.w) a b ne lb) ⟨vs1, vs2, dof1, dof2, by rw [← l1, ← l2]; exact Nat.le_trans hl (by rw [sizeLine_eq]; decide), fun g d1 d2 sb => ?_⟩
  have I2 := d_write (t' := s.toks) I (by rw [ha]; trivial) sb (by obtain ⟨ep, ob, es, got, _⟩ := d1.dictAt; exact ⟨ob, got⟩) (dk_new (by refine Nat.le_trans (length_mergeK more kvs) (Nat.le_trans hl (by rw [sizeLine_eq]; decide))) la (rel2.merge rel1) d1)
  exact ⟨.non, _, I2, rfl, q⟩
def rClrD : V → List V → Hp → VK → Prop := fun x vs H Q => ∃ (a : Addr) (kvs : List (Key × V)), x = .ref a ∧ vs = [] ∧ H a = some (.dK kvs) ∧ Q .non (upd H a (.dK []))
theorem mtd_clr {X : Cx} : MtR X "dict.clear" rClrD := by
  intro pins s σ H x vs v us Q I rx rv h
  obtain ⟨a, kvs, ex, ev, ha, q⟩ := h
  subst ex ev
  obtain rfl : v = Value.ref a := rx
  cases rv
  exact d_clear I ha fun t J => ⟨.non, _, J, rfl, q⟩
end

/-! ### dicts of anything, made of pairs -/
def kW (q : Int × V) : Key × V := (.inl q.1, q.2)
def KvsAt (H : Hp) : List V → List (Int × V) → Prop
  | [], [] => True
  | x :: xs, q :: qs => (∃ t, x = .ref t ∧ H t = some (.tup [.int q.1, q.2])) ∧ KvsAt H xs qs
  | _, _ => False
theorem KvsAt.len {H : Hp} : ∀ {xs : List V} {qs : List (Int × V)}, KvsAt H xs qs → xs.length = qs.length
  | [], [], _ => rfl
  | _ :: _, _ :: _, h => by rw [List.length_cons, List.length_cons, KvsAt.len h.2]
  | [], _ :: _, h => h.elim
  | _ :: _, [], h => h.elim
theorem KvsAt.kp {H H' : Hp} {ws : List Addr} (k : Kp ws H H') : ∀ {xs : List V} {qs : List (Int × V)}, KvsAt H xs qs → KvsAt H' xs qs
  | [], [], _ => trivial
  | _ :: _, _ :: _, ⟨⟨t, e, h⟩, r⟩ => ⟨⟨t, e, k.fix _ _ h trivial⟩, KvsAt.kp k r⟩
  | [], _ :: _, h => h.elim
  | _ :: _, [], h => h.elim
theorem KvsAt.snoc {H : Hp} {t : Addr} {q : Int × V} (e : H t = some (.tup [.int q.1, q.2])) : ∀ {xs : List V} {qs : List (Int × V)}, KvsAt H xs qs → KvsAt H (xs ++ [.ref t]) (qs ++ [q])
  | [], [], _ => ⟨⟨t, rfl, e⟩, trivial⟩
  | _ :: _, _ :: _, ⟨a, r⟩ => ⟨a, KvsAt.snoc e r⟩
  | [], _ :: _, h => h.elim
  | _ :: _, [], h => h.elim
theorem KvsAt.unl {H : Hp} {d : Addr} {ob : Obj} {u : HO} (h : H d = some (.frz ob u)) (o : HO) : ∀ {xs : List V} {qs : List (Int × V)}, KvsAt H xs qs → KvsAt (upd H d o) xs qs
  | [], [], _ => trivial
  | _ :: _, _ :: _, ⟨⟨t, e, h1⟩, r⟩ => ⟨⟨t, e, upd_nn (fun z => by rw [z, h] at h1; cases h1) h1⟩, KvsAt.unl h o r⟩
  | [], _ :: _, h => h.elim
  | _ :: _, [], h => h.elim
theorem kvs_refs {K : PySem.W.Frag} {H : Hp} : ∀ {xs : List V} {qs : List (Int × V)}, KvsAt H xs qs → ∃ ts : List Addr, xs = ts.map V.ref ∧ Paired (fun p kv => SqT K H p [kV kv.1, kv.2]) ts (qs.map kW)
  | [], [], _ => ⟨[], rfl, .nil⟩
  | _ :: _, q :: _, ⟨⟨t, e, h⟩, r⟩ => by
    obtain ⟨ts, rfl, hp⟩ := kvs_refs (K := K) r
    subst e
    exact ⟨t :: ts, rfl, .cons (SqT.of h) hp⟩
  | [], _ :: _, h => h.elim
  | _ :: _, [], h => h.elim
theorem valW_none {w : Int} : ∀ {qs : List (Int × V)}, w ∉ qs.map (·.1) → valV (qs.map kW) (.inl w) = none
  | [], _ => rfl
  | p :: ps, h => by
    rw [List.map_cons, List.mem_cons, not_or] at h
    rw [List.map_cons, valV_neg (fun z => ?_)]
    · exact valW_none h.2
    · have z : (Sum.inl p.1 : Key) = .inl w := z
      injection z with z
      exact h.1 z.symm
theorem merge_kW : ∀ (ps acc : List (Int × V)), ((acc ++ ps).map (·.1)).Nodup → mergeK (acc.map kW) (ps.map kW) = (acc ++ ps).map kW
  | [], acc, _ => by rw [List.append_nil]; rfl
  | q :: ps, acc, h => by
    have e : (acc ++ q :: ps) = (acc ++ [q]) ++ ps := by rw [List.append_assoc]; rfl
    have n : q.1 ∉ acc.map (·.1) := fun z => by
      rw [List.map_append, List.map_cons] at h
      exact (List.nodup_append.mp h).2.2 q.1 z q.1 List.mem_cons_self rfl
    have ih := merge_kW ps (acc ++ [q]) (by rw [← e]; exact h)
    have p : putK (acc.map kW) (kW q).1 (kW q).2 = (acc ++ [q]).map kW := by
      show putK (acc.map kW) (.inl q.1) q.2 = _
      rw [putK_new _ (valW_none n), List.map_append]
      rfl
    rw [e, ← ih, ← p]
    rfl
theorem i_dictKvs {K : PySem.W.Frag} {H : Hp} {Q : VK} {a : Addr} {xs : List V} {qs : List (Int × V)} (h : H a = some (.lst xs)) (px : KvsAt H xs qs) (nd : (qs.map (·.1)).Nodup) (q : New H fun p => Q (.ref p) (upd H p (.dK (qs.map kW)))) : rDictP K [.ref a] H Q := by
  obtain ⟨ts, rfl, hp⟩ := kvs_refs (K := K) px
  refine ⟨a, ts, qs.map kW, rfl, SqL.of h, hp, fun p hp => ?_⟩
  have e := merge_kW qs [] nd
  rw [List.map_nil] at e
  rw [e]
  exact q p hp
theorem valW_in {w : Int} {v : V} : ∀ {qs : List (Int × V)}, (qs.map (·.1)).Nodup → (w, v) ∈ qs → valV (qs.map kW) (.inl w) = some v
  | [], _, h => nomatch h
  | q :: qs, nd, h => by
    rw [List.map_cons, List.nodup_cons] at nd
    rw [List.map_cons]
    rcases List.mem_cons.mp h with h | h
    · rw [← h]
      exact valV_pos rfl
    · rw [valV_neg (fun z => ?_)]
      · exact valW_in nd.2 h
      · have z : (Sum.inl q.1 : Key) = .inl w := z
        injection z with z
        exact nd.1 (by rw [z]; exact List.mem_map.mpr ⟨_, h, rfl⟩)

theorem cols_get {c : Int → List Int} {liv E : List Int} {n : Int} (h : EAll c liv E) (hn : ∀ w ∈ liv, ((c w).length : Int) = n) {i : Nat} {q : Int × List (Int × Int)} (e : (colsOf c liv E)[i]? = some q) : ∃ b, q.2 = colN c liv b ∧ 0 < q.1 ∧ q.1 ≤ n ∧ 0 ≤ b ∧ b < n ∧ liv ≠ [] := by
  have hi := (List.getElem?_eq_some_iff.mp e).1
  rw [colsOf_len] at hi
  have he : E[i]? = some E[i] := List.getElem?_eq_getElem hi
  have hb : (0 :: E)[i]? = some ((0 :: E)[i]'(by rw [List.length_cons]; omega)) := List.getElem?_eq_getElem (by rw [List.length_cons]; omega)
  obtain ⟨z, ez⟩ : ∃ z, z = E[i] := ⟨_, rfl⟩
  obtain ⟨b, eb⟩ : ∃ b, b = (0 :: E)[i]'(by rw [List.length_cons]; omega) := ⟨_, rfl⟩
  rw [← ez] at he
  rw [← eb] at hb
  rw [colsOf_get hb he] at e
  cases e
  obtain ⟨w, hw, _⟩ := (h.mem z).mp (List.mem_of_getElem? he)
  have ok := h.ok hn hw
  obtain ⟨b0, be⟩ := ok.lt hb he
  have le := ok.le z (List.mem_of_getElem? he)
  rw [hn w hw] at le
  refine ⟨b, rfl, ?_, ?_, b0, by omega, fun z => by rw [z] at hw; cases hw⟩
  · show 0 < z - b
    omega
  · show z - b ≤ n
    omega

/-! ### a dict that is walked: the heaps by names -/
/-- what is no dict's lock is as it was -/
structure Ul (d : Addr) (H H' : Hp) : Prop where
  e : ∀ a u, a ≠ d → H a = some u → H' a = some u
section
variable {K : PySem.W.Frag} {H H' : Hp} {d : Addr} {o : Obj} {kvs : List (Key × V)}
theorem Ul.mk' {u : HO} : Ul d H (upd H d u) := ⟨fun a v n h => by rw [upd_ne n]; exact h⟩
theorem Ul.seqT (k : Ul d H H') (hd : H d = some (.frz o (.dK kvs))) {a : Addr} {xs : List V} (h : SqT K H a xs) : SqT K H' a xs := by
  rcases h with (h | ⟨ob, h⟩) | h
  · exact .inl (.inl (k.e _ _ (fun z => by rw [z, hd] at h; cases h) h))
  · exact .inl (.inr ⟨ob, k.e _ _ (fun z => by rw [z, hd] at h; cases h) h⟩)
  · exact .inr h
mutual
theorem Ul.dp (k : Ul d H H') (hd : H d = some (.frz o (.dK kvs))) : ∀ (x : PyData) (v : V), imm x = true → Dp K H v x → Dp K H' v x
  | .none, _, _, h => by cases h; exact .non
  | .bool b, _, _, h => by cases h; exact .bl b
  | .int i, _, _, h => by cases h; exact .int i
  | .str x, _, _, h => by cases h; exact .str x
  | .tuple ds, _, hi, h => by
    cases h with
    | tup hs ha => exact .tup (k.seqT hd hs) (Ul.dpa k hd ds _ (by simpa only [imm] using hi) ha)
  | .list _, _, hi, _ => by simp only [imm] at hi; cases hi
  | .dict _, _, hi, _ => by simp only [imm] at hi; cases hi
theorem Ul.dpa (k : Ul d H H') (hd : H d = some (.frz o (.dK kvs))) : ∀ (ds : List PyData) (vs : List V), imms ds = true → DpAll K H vs ds → DpAll K H' vs ds
  | [], _, _, h => by cases h; exact .nil
  | x :: ds, _, hi, h => by
    simp only [imms, Bool.and_eq_true] at hi
    cases h with
    | cons h1 h2 => exact .cons (Ul.dp k hd x _ hi.1 h1) (Ul.dpa k hd ds _ hi.2 h2)
end
theorem Ul.ld (k : Ul d H H') (hd : H d = some (.frz o (.dK kvs))) {l : Addr} {ds : List PyData} (hi : imms ds = true) (h : LD K H l ds) : LD K H' l ds := by
  obtain ⟨vs, e, q⟩ := h
  exact ⟨vs, k.e _ _ (fun z => by rw [z, hd] at e; cases e) e, k.dpa hd _ _ hi q⟩
def Lk (H : Hp) (d : Addr) (kvs : List (Key × V)) (HF : Hp) : Prop := ∀ ws H', d ∉ ws → Kp ws HF H' → Kp ws H (upd H' d (.dK kvs))
def AtL (Q : VK) (v : V) (d : Addr) (kvs : List (Key × V)) (H' : Hp) : Prop := Q v (upd H' d (.dK kvs))
theorem lk_mk {od : Obj} (h : H d = some (.dK kvs)) : Lk H d kvs (upd H d (.frz od (.dK kvs))) := fun ws H' n kk => kp_unlW h (fun z => z) kk fun b hb z => n (by rw [z]; exact hb)
/-- an expression that walks a dict -/
theorem a_lockE {t : TE} {σ : L2.St} {Q : VK} (h : H d = some (.dK kvs)) (k : ∀ od HF, Kp [d] H HF → HF d = some (.frz od (.dK kvs)) → Lk H d kvs HF → t σ HF fun v H' => H' d = some (.frz od (.dK kvs)) ∧ AtL Q v d kvs H') : tLockE t σ H Q :=
  ⟨d, _, h, trivial, fun od => k od (upd H d (.frz od (.dK kvs))) (Kp.mut h (fun z => z) (List.mem_singleton.mpr rfl)) upd_same (lk_mk h)⟩
theorem a_unl {HF : Hp} {ws : List Addr} {Q : VK} {v : V} (lk : Lk H d kvs HF) (kk : Kp ws HF H') (n : d ∉ ws) (q : ∀ H2, Ul d H' H2 → H2 d = some (.dK kvs) → Kp ws H H2 → Q v H2) : AtL Q v d kvs H' :=
  q _ .mk' upd_same (lk _ _ n kk)
end
/-- dict(d): hint `~ call_dictA` -/
def rDictA : List V → Hp → VK → Prop := fun xs H Q => ∃ (a : Addr) (kvs : List (Key × V)), xs = [.ref a] ∧ Rd H a (.dK kvs) ∧ New H fun p => At Q (.ref p) (upd H p (.dK kvs))
theorem call_dictA {X : Cx} : CallR X (.type "dict") rDictA := call_dictD
theorem a_dictA {H : Hp} {Q : VK} {a : Addr} {kvs : List (Key × V)} (h : H a = some (.dK kvs)) (q : New H fun p => At Q (.ref p) (upd H p (.dK kvs))) : rDictA [.ref a] H Q := ⟨a, kvs, rfl, Rd.of h, q⟩

theorem i_isY {K : PySem.W.Frag} {H : Hp} {Q : VK} {v : V} {t T : String} {b : Bool} (ty : TyOf K H v (.type t)) (e : kitB t T = some b) (h : Q (.bl b) H) : rIsi K [v, .ty T] H Q := ⟨v, .ty T, _, _, b, rfl, .ty T, .base ty, kit_ty e, h⟩
theorem a_disp1t {tk tv : TE} {σ : L2.St} {H : Hp} {Q : VK} (q : ∀ p H', Fr H p → Kp [] H H' → H' p = some (.dK []) → tk σ H' fun k H1 => tv σ H1 fun v H2 => DispK p Q k v H2) : tDisp [(tk, tv)] σ H Q := fun p hp => q p _ ⟨hp⟩ (Kp.new ⟨hp⟩) upd_same
theorem a_dispKs {H2 : Hp} {Q : VK} {z : Str} {p : Addr} {v : V} (h : H2 p = some (.dK [])) (q : ∀ H', Kp [p] H2 H' → H' p = some (.dK [(.inr z, v)]) → Q (.ref p) H') : DispK p Q (.str z) v H2 :=
  ⟨h, [(.inr z, v)], rfl, by rw [List.length_singleton]; decide, q _ (Kp.mut h (fun z => z) (List.mem_singleton.mpr rfl)) upd_same⟩
theorem a_dictKvs {K : PySem.W.Frag} {H : Hp} {Q : VK} {a : Addr} {xs : List V} {qs : List (Int × V)} (h : H a = some (.lst xs)) (px : KvsAt H xs qs) (nd : (qs.map (·.1)).Nodup) (q : New H fun p => At Q (.ref p) (upd H p (.dK (qs.map kW)))) : rDictP K [.ref a] H Q := i_dictKvs h px nd q
theorem i_pw41 {H : Hp} {Q : VK} (h : Q (.int 100000000000000000000000000000000000000000) H) : rPow (.int 10) (.int 41) H Q := pow_go rfl (by decide) h

theorem laid_all {cs xs : List Int} {e : Nat} (h : cs.length ≤ e) : laid cs 0 xs e = xs := by
  unfold laid
  rw [List.take_zero, List.nil_append, List.drop_of_length_le h, List.append_nil]

/-! ### rows, memories as pairs; columns kept -/
section
variable {K : PySem.W.Frag} {H H' : Hp} {C : Addr} {n : Int} {c : Int → List Int} {rw : List (Int × Addr)} {ws : List Addr}
structure RwAt (K : PySem.W.Frag) (H : Hp) (n : Int) (c : Int → List Int) (rw : List (Int × Addr)) : Prop where
  ld : ∀ q ∈ rw, LD K H q.2 ((rle (c q.1)).map d2)
  cl : ∀ q ∈ rw, ((c q.1).length : Int) = n ∧ (rle (c q.1)).length ≤ 7
theorem RwAt.kp (h : RwAt K H n c rw) (k : Kp ws H H') (nn : ∀ q ∈ rw, q.2 ∉ ws) : RwAt K H' n c rw := ⟨fun q hq => (h.ld q hq).kp k (imms_d2 _) (nn q hq), h.cl⟩
theorem RwAt.kp0 (h : RwAt K H n c rw) (k : Kp [] H H') : RwAt K H' n c rw := h.kp k fun _ _ => not_nil
theorem RwAt.snoc {w : Int} {l : Addr} {cs : List Int} (h : RwAt K H n c rw) (nw : w ∉ rw.map (·.1)) (ld : LD K H l ((rle cs).map d2)) (l1 : (cs.length : Int) = n) (l2 : (rle cs).length ≤ 7) : RwAt K H n (fun x => if x = w then cs else c x) (rw ++ [(w, l)]) := by
  have e1 : ∀ q ∈ rw, (if q.1 = w then cs else c q.1) = c q.1 := fun q hq => if_neg fun z => nw (by rw [← z]; exact List.mem_map.mpr ⟨q, hq, rfl⟩)
  refine ⟨fun q hq => ?_, fun q hq => ?_⟩
  · rcases List.mem_append.mp hq with hq | hq
    · show LD K H q.2 ((rle (if q.1 = w then cs else c q.1)).map d2)
      rw [e1 q hq]
      exact h.ld q hq
    · rw [List.mem_singleton.mp hq]
      show LD K H l ((rle (if w = w then cs else c w)).map d2)
      rw [if_pos rfl]
      exact ld
  · rcases List.mem_append.mp hq with hq | hq
    · show (((if q.1 = w then cs else c q.1).length : Nat) : Int) = n ∧ (rle (if q.1 = w then cs else c q.1)).length ≤ 7
      rw [e1 q hq]
      exact h.cl q hq
    · rw [List.mem_singleton.mp hq]
      show (((if w = w then cs else c w).length : Nat) : Int) = n ∧ (rle (if w = w then cs else c w)).length ≤ 7
      rw [if_pos rfl]
      exact ⟨l1, l2⟩
theorem RwAt.push {w : Int} {l : Addr} (h : RwAt K H n c rw) (ld : LD K H l ((rle (c w)).map d2)) (l1 : ((c w).length : Int) = n) (l2 : (rle (c w)).length ≤ 7) : RwAt K H n c (rw ++ [(w, l)]) := by
  refine ⟨fun q hq => ?_, fun q hq => ?_⟩ <;> rcases List.mem_append.mp hq with hq | hq
  · exact h.ld q hq
  · rw [List.mem_singleton.mp hq]
    exact ld
  · exact h.cl q hq
  · rw [List.mem_singleton.mp hq]
    exact ⟨l1, l2⟩
theorem RwAt.ne {d : Addr} {kvs : List (Key × V)} (h : RwAt K H n c rw) (hd : H d = some (.dK kvs)) : ∀ q ∈ rw, q.2 ≠ d := fun q hq z => by
  obtain ⟨vs, e, _⟩ := h.ld q hq
  rw [z, hd] at e
  cases e
def LdsAt (K : PySem.W.Frag) (D : Addr) (H : Hp) : List V → List (List (Int × Int)) → Prop
  | [], [] => True
  | x :: xs, q :: qs => (∃ l, x = .ref l ∧ LD K H l (q.map d2) ∧ l ≠ D) ∧ LdsAt K D H xs qs
  | _, _ => False
variable {D : Addr}
theorem LdsAt.kp (k : Kp ws H H') (hw : ∀ b ∈ ws, b = D) : ∀ {xs : List V} {qs : List (List (Int × Int))}, LdsAt K D H xs qs → LdsAt K D H' xs qs
  | [], [], _ => trivial
  | _ :: _, _ :: _, ⟨⟨l, e, h2, n⟩, r⟩ => ⟨⟨l, e, h2.kp k (imms_d2 _) (fun z => n (hw _ z)), n⟩, LdsAt.kp k hw r⟩
  | [], _ :: _, h => h.elim
  | _ :: _, [], h => h.elim
theorem LdsAt.ul {d : Addr} {o : Obj} {kvs : List (Key × V)} (k : Ul d H H') (hd : H d = some (.frz o (.dK kvs))) : ∀ {xs : List V} {qs : List (List (Int × Int))}, LdsAt K D H xs qs → LdsAt K D H' xs qs
  | [], [], _ => trivial
  | _ :: _, _ :: _, ⟨⟨l, e, h2, n⟩, r⟩ => ⟨⟨l, e, k.ld hd (imms_d2 _) h2, n⟩, LdsAt.ul k hd r⟩
  | [], _ :: _, h => h.elim
  | _ :: _, [], h => h.elim
theorem LdsAt.snoc {l : Addr} {q : List (Int × Int)} (h2 : LD K H l (q.map d2)) (n : l ≠ D) : ∀ {xs : List V} {qs : List (List (Int × Int))}, LdsAt K D H xs qs → LdsAt K D H (xs ++ [.ref l]) (qs ++ [q])
  | [], [], _ => ⟨⟨l, rfl, h2, n⟩, trivial⟩
  | _ :: _, _ :: _, ⟨a, r⟩ => ⟨a, LdsAt.snoc h2 n r⟩
  | [], _ :: _, h => h.elim
  | _ :: _, [], h => h.elim
theorem LdsAt.len : ∀ {xs : List V} {qs : List (List (Int × Int))}, LdsAt K D H xs qs → xs.length = qs.length
  | [], [], _ => rfl
  | _ :: _, _ :: _, h => by rw [List.length_cons, List.length_cons, LdsAt.len h.2]
  | [], _ :: _, h => h.elim
  | _ :: _, [], h => h.elim
theorem LdsAt.dpa : ∀ {xs : List V} {qs : List (List (Int × Int))}, LdsAt K D H xs qs → DpAll K H xs (qs.map fun ps => .list (ps.map d2))
  | [], [], _ => .nil
  | _ :: _, _ :: _, ⟨⟨l, e, h2, _⟩, r⟩ => by
    subst e
    exact .cons h2.dp (LdsAt.dpa r)
  | [], _ :: _, h => h.elim
  | _ :: _, [], h => h.elim
theorem canLay_lds : ∀ qs : List (List (Int × Int)), PyData.canLayAll0 (qs.map fun ps => .list (ps.map d2)) = true
  | [] => rfl
  | p :: l => by
    simp only [List.map_cons, PyData.canLayAll0, PyData.canLay0, canLay_pairs p, canLay_lds l]
    rfl
theorem depth_lds : ∀ qs : List (List (Int × Int)), PyData.depthAll (qs.map fun ps => .list (ps.map d2)) ≤ 2
  | [] => Nat.zero_le _
  | p :: l => by
    have a := depth_pairs p
    have b := depth_lds l
    simp only [List.map_cons, PyData.depthAll, PyData.depth]
    omega
theorem shaped_lds (qs : List (List (Int × Int))) : SeqAt.shaped (.list (qs.map fun ps => .list (ps.map d2))) = true := by
  refine shaped_of ?_ ?_
  · simp only [PyData.canLay0]
    exact canLay_lds qs
  · have := depth_lds qs
    simp only [PyData.depth]
    omega
theorem ColVs.kds (k : Kp ws H H') : ∀ {xs : List V} {qs : List (Int × List (Int × Int))} {ds : List Addr}, ColVs H xs qs → DsOf H xs ds → (∀ d ∈ ds, d ∉ ws) → ColVs H' xs qs
  | [], [], _, _, _, _ => trivial
  | x :: xs, q :: qs, d' :: ds, ⟨⟨t, d, e, h1, h2⟩, r⟩, ⟨⟨t', v, e', h1'⟩, r'⟩, n => by
    rw [e] at e'
    cases e'
    rw [h1] at h1'
    cases h1'
    exact ⟨⟨t, d', e, k.fix _ _ h1 trivial, k.at_ _ _ h2 (n d' List.mem_cons_self)⟩, ColVs.kds k r r' fun x hx => n x (List.mem_cons_of_mem _ hx)⟩
  | [], _ :: _, _, h, _, _ => h.elim
  | _ :: _, [], _, h, _, _ => h.elim
  | _ :: _, _ :: _, [], _, h, _ => h.elim
theorem ColVs.kni {m C dx : Addr} {fs : List (Str × V)} (k : Kp [m] H H') (hm : H m = some (.ins C dx fs)) : ∀ {xs : List V} {qs : List (Int × List (Int × Int))}, ColVs H xs qs → ColVs H' xs qs
  | [], [], _ => trivial
  | _ :: _, _ :: _, ⟨⟨t, d, e, h1, h2⟩, r⟩ => ⟨⟨t, d, e, k.fix _ _ h1 trivial, k.at_ _ _ h2 (not_one fun z => by rw [z, hm] at h2; cases h2)⟩, ColVs.kni k hm r⟩
  | [], _ :: _, h => h.elim
  | _ :: _, [], h => h.elim
theorem cols_ok {liv E : List Int} (h : EAll c liv E) (hn : ∀ w ∈ liv, ((c w).length : Int) = n) (n2 : n ≤ 1000000000000000000) (nd : liv.Nodup) (l7 : liv.length ≤ 7) (ho : ∀ u ∈ liv, okI u ∧ ∀ v ∈ c u, okI v) : ∀ q ∈ colsOf c liv E, okCol q := by
  intro q hq
  obtain ⟨i, hi⟩ := List.mem_iff_getElem?.mp hq
  obtain ⟨b, e2, q0, q1, b0, bn, _⟩ := cols_get h hn hi
  refine ⟨okI_of (by omega) (by omega), ?_, ?_, fun z hz => ?_⟩
  · rw [e2]
    unfold colN
    rw [List.length_map]
    exact l7
  · rw [e2, colN_keys]
    exact nd
  · rw [e2] at hz
    unfold colN at hz
    obtain ⟨u, hu, rfl⟩ := List.mem_map.mp hz
    refine ⟨(ho u hu).1, (ho u hu).2 _ ?_⟩
    have := hn u hu
    have hb : b.toNat < (c u).length := by omega
    show (c u).getD b.toNat 0 ∈ c u
    rw [List.getD_eq_getElem?_getD, List.getElem?_eq_getElem hb]
    exact List.getElem_mem hb
theorem nd_inj {α β : Type} {f : α → β} : ∀ {l : List α}, (l.map f).Nodup → ∀ {a b : α}, a ∈ l → b ∈ l → f a = f b → a = b
  | [], _, _, _, h, _, _ => nomatch h
  | x :: l, nd, a, b, ha, hb, e => by
    rw [List.map_cons, List.nodup_cons] at nd
    rcases List.mem_cons.mp ha with h1 | h1 <;> rcases List.mem_cons.mp hb with h2 | h2
    · rw [h1, h2]
    · exact absurd (List.mem_map.mpr ⟨b, h2, by rw [← e, h1]⟩) nd.1
    · exact absurd (List.mem_map.mpr ⟨a, h1, by rw [e, h2]⟩) nd.1
    · exact nd_inj nd.2 h1 h2 e
theorem put_kA {w : Int} {l : Addr} (h : w ∈ rw.map (·.1)) : putK (rw.map kA) (.inl w) (.ref l) = (rw.map fun q => if q.1 = w then (w, l) else q).map kA := by
  unfold putK
  have e : ((rw.map kA).any fun kv => decide (kv.1 = (Sum.inl w : Key))) = true := by
    obtain ⟨q, hq, e⟩ := List.mem_map.mp h
    rw [List.any_eq_true]
    exact ⟨kA q, List.mem_map.mpr ⟨q, hq, rfl⟩, decide_eq_true (by show (Sum.inl q.1 : Key) = _; rw [e])⟩
  rw [if_pos e, List.map_map, List.map_map]
  refine List.map_congr_left fun q hq => ?_
  show (if (Sum.inl q.1 : Key) = Sum.inl w then (Sum.inl q.1, V.ref l) else kA q) = kA (if q.1 = w then (w, l) else q)
  by_cases c : q.1 = w
  · rw [if_pos c, if_pos (by rw [c]), c]
    rfl
  · rw [if_neg c, if_neg (fun z => c (by injection z))]
theorem keys_set {w : Int} {l : Addr} : (rw.map fun q => if q.1 = w then (w, l) else q).map (·.1) = rw.map (·.1) := by
  rw [List.map_map]
  refine List.map_congr_left fun q _ => ?_
  show (if q.1 = w then (w, l) else q).1 = q.1
  by_cases c : q.1 = w
  · rw [if_pos c, c]
  · rw [if_neg c]
theorem val_kM {w : Int} {m l : Addr} {es : List (Int × Addr × Addr)} (nd : (es.map (·.1)).Nodup) (h : (w, m, l) ∈ es) : valV (es.map kM) (.inl w) = some (.ref m) := by
  have e : es.map kM = (es.map fun e => (e.1, V.ref e.2.1)).map kW := by rw [List.map_map]; rfl
  rw [e]
  exact valW_in (by rw [List.map_map]; exact nd) (List.mem_map.mpr ⟨_, h, rfl⟩)
end
theorem a_setK {H : Hp} {a : Addr} {kvs : List (Key × V)} {n : Int} {v : V} {P : Hp → Prop} (hd : H a = some (.dK kvs)) (hl : kvs.length ≤ 1000000) (q : ∀ H', Kp [a] H H' → H' a = some (.dK (putK kvs (.inl n) v)) → P H') : rSetD (.ref a) (.int n) v H P :=
  i_setK hd hl (q _ (Kp.mut hd (fun z => z) (List.mem_singleton.mpr rfl)) upd_same)
theorem KvsAt.ul {H H' : Hp} {d : Addr} {o : Obj} {kvs : List (Key × V)} (k : Ul d H H') (hd : H d = some (.frz o (.dK kvs))) : ∀ {xs : List V} {qs : List (Int × V)}, KvsAt H xs qs → KvsAt H' xs qs
  | [], [], _ => trivial
  | _ :: _, _ :: _, ⟨⟨t, e, h⟩, r⟩ => ⟨⟨t, e, k.e _ _ (fun z => by rw [z, hd] at h; cases h) h⟩, KvsAt.ul k hd r⟩
  | [], _ :: _, h => h.elim
  | _ :: _, [], h => h.elim
theorem RwAt.ul {K : PySem.W.Frag} {n : Int} {c : Int → List Int} {rw : List (Int × Addr)} {H H' : Hp} {d : Addr} {o : Obj} {kvs : List (Key × V)} (k : Ul d H H') (hd : H d = some (.frz o (.dK kvs))) (h : RwAt K H n c rw) : RwAt K H' n c rw := ⟨fun q hq => k.ld hd (imms_d2 _) (h.ld q hq), h.cl⟩
theorem cutV_one {x : V} {xs : List V} : cutV (x :: xs) none (some 1) = [x] := by
  have e := HT.sIx_nat (x :: xs).length 0 1
  unfold cutV
  rw [show ((1 : Int)) = ((1 : Nat) : Int) from rfl, HT.sIx_nat, HT.sIx_none]
  rw [List.length_cons, Nat.min_eq_left (by omega)]
  rfl
theorem a_clrD {H : Hp} {Q : VK} {a : Addr} {kvs : List (Key × V)} (hd : H a = some (.dK kvs)) (q : ∀ H', Kp [a] H H' → Q .non H') : rClrD (.ref a) [] H Q := ⟨a, kvs, rfl, rfl, hd, q _ (Kp.mut hd (fun z => z) (List.mem_singleton.mpr rfl))⟩
theorem a_clrL {H : Hp} {Q : VK} {a : Addr} {xs : List V} (hd : H a = some (.lst xs)) (q : ∀ H', Kp [a] H H' → Q .non H') : rClear (.ref a) [] H Q := ⟨a, xs, rfl, rfl, hd, q _ (Kp.mut hd (fun z => z) (List.mem_singleton.mpr rfl))⟩
theorem ds_dk {H : Hp} : ∀ {xs : List V} {qs : List (Int × List (Int × Int))} {ds : List Addr}, ColVs H xs qs → DsOf H xs ds → ∀ d ∈ ds, ∃ kvs, H d = some (.dK kvs)
  | [], [], [], _, _, d, hd => nomatch hd
  | x :: xs, q :: qs, d' :: ds, ⟨⟨t, d, e, h1, h2⟩, r⟩, ⟨⟨t', v, e', h1'⟩, r'⟩, y, hy => by
    rw [e] at e'
    cases e'
    rw [h1] at h1'
    cases h1'
    rcases List.mem_cons.mp hy with h | h
    · rw [h]
      exact ⟨_, h2⟩
    · exact ds_dk r r' y h
  | [], _ :: _, _, h, _, _, _ => h.elim
  | _ :: _, [], _, h, _, _, _ => h.elim
  | _ :: _, _ :: _, [], _, h, _, _ => h.elim
theorem DsOf.drop {H : Hp} : ∀ {xs : List V} {ds : List Addr} (i : Nat), DsOf H xs ds → DsOf H (xs.drop i) (ds.drop i)
  | xs, ds, 0, h => h
  | [], [], i + 1, _ => by
    rw [List.drop_nil, List.drop_nil]
    trivial
  | _ :: xs, _ :: ds, i + 1, h => by
    rw [List.drop_succ_cons, List.drop_succ_cons]
    exact DsOf.drop i h.2
  | [], _ :: _, i + 1, h => h.elim
  | _ :: _, [], i + 1, h => h.elim
theorem nd_drop {l : List Addr} (nd : l.Nodup) {i : Nat} {d : Addr} (h : l[i]? = some d) : ∀ x ∈ l.drop (i + 1), x ≠ d := by
  have e := drop_at h
  have : (l.drop i).Nodup := nd.sublist (List.drop_sublist i l)
  rw [e, List.nodup_cons] at this
  intro x hx z
  exact this.1 (by rw [← z]; exact hx)

def sp_lright (K : PySem.W.Frag) : Sp := fun vs H Q _ => ∃ p : Addr, vs = [.ref p] ∧ PotAt H p ∧ ∀ H', Fx H H' → Q (.bl true) H'
theorem sc_law_right : FnScope ["_law_pot_here", "_law_wide_here", "_law_spots", "_law_worlds_here", "_law_model", "_law_handed", "_law_due", "_law_told", "_law_before", "_law_rest", "_law_many", "_law_numbers", "_law_being", "_law_one", "_law_memory", "_law_row_here"] ["_law_pot_here"] (defScope s_law_right) :=
  ⟨rfl, rfl, rfl, by decide +kernel, rfl, by decide +kernel, by decide +kernel⟩
theorem ok_law_right {P : Program} {w : World} {K : PySem.W.Frag} {mg : Str → Option Value} {base : Heap} (T : Txt K mg) :
    FnG P w K mg base 8 T.a_law_right T.d_law_right ["_law_pot_here"] (sp_lright K) := by
  refine okD T.F_law_right sc_law_right (fun vs H Q E h => ?_) (fun cdv A outer s H vs Q E hr h => ?_)
  · first
      | (obtain ⟨_, rfl, _⟩ := h; rfl)
      | (obtain ⟨_, _, rfl, _⟩ := h; rfl)
      | (obtain ⟨_, _, _, rfl, _⟩ := h; rfl)
      | (obtain ⟨_, _, _, _, rfl, _⟩ := h; rfl)
      | (obtain ⟨_, _, _, _, _, rfl, _⟩ := h; rfl)
      | (obtain ⟨_, _, _, _, _, _, rfl, _⟩ := h; rfl)
      | (obtain ⟨_, _, _, _, _, _, _, rfl, _⟩ := h; rfl)
      | (obtain ⟨_, _, _, _, _, _, _, _, rfl, _⟩ := h; rfl)
      | (obtain ⟨_, _, _, _, _, _, _, _, _, rfl, _⟩ := h; rfl)
      | (obtain ⟨_, _, _, _, _, _, _, _, _, _, rfl, _⟩ := h; rfl)
      | (obtain ⟨_, _, _, _, _, _, _, _, _, _, _, rfl, _⟩ := h; rfl)
      | (obtain ⟨_, _, _, _, _, _, _, _, _, _, _, _, rfl, _⟩ := h; rfl)
      | (obtain ⟨_, _, _, _, _, _, _, _, _, _, _, _, _, rfl, _⟩ := h; rfl)
      | (obtain ⟨_, _, _, _, _, _, _, _, _, _, _, _, _, _, rfl, _⟩ := h; rfl)
      | (obtain ⟨_, _, _, _, _, _, _, _, _, _, _, _, _, _, _, rfl, _⟩ := h; rfl)
      | (obtain ⟨_, _, _, _, _, _, _, _, _, _, _, _, _, _, _, _, rfl, _⟩ := h; rfl)
      | (obtain ⟨_, _, _, _, _, _, _, _, _, _, _, _, _, _, _, _, _, rfl, _⟩ := h; rfl)
      | (obtain ⟨_, _, _, _, _, _, _, _, _, _, _, _, _, _, _, _, _, _, rfl, _⟩ := h; rfl)
      | (obtain ⟨_, _, _, _, _, _, _, _, _, _, _, _, _, _, _, _, _, _, _, rfl, _⟩ := h; rfl)
  · obtain ⟨p, rfl, hp, k⟩ := h
    have cl_Memory := T.cl_Memory
    have na_Memory_pairs := T.na_Memory_pairs
    have na_Memory_wide := T.na_Memory_wide
    refine ⟨_, (pss_cons (ps_asg (pe_tup (pa_cons (d1 (ok_law_wide T) (hr.mono (by decide)) (by rfl) T.m_law_wide T.F_law_wide.kp T.b_law_wide passL (pa_cons (pv 0) pa_nil)) (pa_cons (pe_lst (pa_cons pe_int pa_nil)) pa_nil))) (k_gtup (K := K) 2 rfl rfl (pgs_cons (pg_name (i := 1) sc_law_right.nd rfl (Or.inr rfl)) (pgs_cons (pg_name (i := 2) sc_law_right.nd rfl (Or.inr rfl)) pgs_nil))))
      (pss_cons (ps_set (i := 3) sc_law_right.nd rfl (Or.inl rfl) (d1 (ok_law_worlds T) (hr.mono (by decide)) (by rfl) T.m_law_worlds T.F_law_worlds.kp T.b_law_worlds passL (pa_cons (pv 0) pa_nil)))
      (pss_cons (ps_set (i := 4) sc_law_right.nd rfl (Or.inr rfl) (pe_disp (pps_cons pe_str (pe_callTy (k_dictP (K := K) rfl rfl) (by rfl) T.n_dict (by decide +kernel) (pa_cons (pe_lc (own := [("_law_being", 12)]) (g := (gName 12)) (tt := tYes) rfl sc_law_right.nd (k_plist (K := K) rfl (pv 3)) (blkOk_by (own := [("_law_being", 12)]) (N := ["_law_pot_here", "_law_wide_here", "_law_spots", "_law_worlds_here", "_law_model", "_law_handed", "_law_due", "_law_told", "_law_before", "_law_rest", "_law_many", "_law_numbers", "_law_being", "_law_one", "_law_memory", "_law_row_here"]) (sc := defScope s_law_right) (by decide +kernel)) (fun _ _ _ _ _ => (pg_name (i := 12) sc_law_right.nd rfl (Or.inl rfl))) (fun _ _ _ _ _ => pts_nil) (fun _ _ _ _ _ => (pe_tup (pa_cons (pv 12) (pa_cons (d1 (ok_law_row T) (hr.mono (by decide)) (by rfl) T.m_law_row T.F_law_row.kp T.b_law_row passL (pa_cons (pv 0) (pa_cons (pv 1) (pa_cons (pv 2) pa_nil)))) pa_nil))))) pa_nil)) pps_nil) (by rfl) (by rfl) (fun z => by cases z) (by decide)))
      (pss_cons (ps_set (i := 5) sc_law_right.nd rfl (Or.inl rfl) (pe_callTy (k_dictP (K := K) rfl rfl) (by rfl) T.n_dict (by decide +kernel) (pa_cons (pe_lc (own := [("_law_being", 12)]) (g := (gName 12)) (tt := tYes) rfl sc_law_right.nd (k_plist (K := K) rfl (pv 3)) (blkOk_by (own := [("_law_being", 12)]) (N := ["_law_pot_here", "_law_wide_here", "_law_spots", "_law_worlds_here", "_law_model", "_law_handed", "_law_due", "_law_told", "_law_before", "_law_rest", "_law_many", "_law_numbers", "_law_being", "_law_one", "_law_memory", "_law_row_here"]) (sc := defScope s_law_right) (by decide +kernel)) (fun _ _ _ _ _ => (pg_name (i := 12) sc_law_right.nd rfl (Or.inl rfl))) (fun _ _ _ _ _ => pts_nil) (fun _ _ _ _ _ => (pe_tup (pa_cons (pv 12) (pa_cons (d1 (ok_memory_of T) (hr.mono (by decide)) (by rfl) T.m_memory_of T.F_memory_of.kp T.b_memory_of passL (pa_cons (pe_callTy (k_list (K := K) rfl) (by rfl) T.n_list (by decide +kernel) (pa_cons (pe_dget (u1 hr.r.units) (pe_dget (u1 hr.r.units) (pv 4) pe_str (fun _ _ => rfl)) (pv 12) (fun _ _ => rfl)) pa_nil)) pa_nil)) pa_nil))))) pa_nil)))
      (pss_cons (ps_set (i := 6) sc_law_right.nd rfl (Or.inl rfl) (d1 (ok_law_shown T) (hr.mono (by decide)) (by rfl) T.m_law_shown T.F_law_shown.kp T.b_law_shown passL (pa_cons (d1 (ok_law_columns T) (hr.mono (by decide)) (by rfl) T.m_law_columns T.F_law_columns.kp T.b_law_columns passL (pa_cons (pv 4) pa_nil)) pa_nil)))
      (pss_cons (ps_set (i := 7) sc_law_right.nd rfl (Or.inl rfl) (d1 (ok_columns T) (hr.mono (by decide)) (by rfl) T.m_columns T.F_columns.kp T.b_columns passL (pa_cons (pv 5) pa_nil)))
      (pss_cons (ps_if (PW.pt (pw_or (pt_not (pt_val (pe_callB (k_isi (K := K) rfl) (by rfl) T.n_isinstance (by decide +kernel) (pa_cons (pv 7) (pa_cons (pe_bltn (v := .ty "list") (by rfl) T.n_list (by decide +kernel) rfl) pa_nil))))) (pw_or1 (pt_not (pt_val (pe_callB (k_all (K := K) rfl rfl) (by rfl) T.n_all (by decide +kernel) (pa_cons (pe_lc (own := [("_law_one", 13)]) (g := (gName 13)) (tt := tYes) rfl sc_law_right.nd (k_plist (K := K) rfl (pv 7)) (blkOk_by (own := [("_law_one", 13)]) (N := ["_law_pot_here", "_law_wide_here", "_law_spots", "_law_worlds_here", "_law_model", "_law_handed", "_law_due", "_law_told", "_law_before", "_law_rest", "_law_many", "_law_numbers", "_law_being", "_law_one", "_law_memory", "_law_row_here"]) (sc := defScope s_law_right) (by decide +kernel)) (fun _ _ _ _ _ => (pg_name (i := 13) sc_law_right.nd rfl (Or.inl rfl))) (fun _ _ _ _ _ => pts_nil) (fun _ _ _ _ _ => (pe_and (pe_callB (k_isi (K := K) rfl) (by rfl) T.n_isinstance (by decide +kernel) (pa_cons (pv 13) (pa_cons (pe_bltn (v := .ty "tuple") (by rfl) T.n_tuple (by decide +kernel) rfl) pa_nil))) (pe_one (pe_callB (k_isi (K := K) rfl) (by rfl) T.n_isinstance (by decide +kernel) (pa_cons (pe_ix (k_ix (K := K) rfl) (pv 13) pe_int (fun _ _ => rfl)) (pa_cons (pe_bltn (v := .ty "dict") (by rfl) T.n_dict (by decide +kernel) rfl) pa_nil))))))) pa_nil))))))) (pss_one (ps_ret pe_bl)) pss_nil)
      (pss_cons (ps_if (PW.pt (pw_or (pt_cmpR (k_ne (K := K) rfl hr.r.units) (d1 (ok_law_shown T) (hr.mono (by decide)) (by rfl) T.m_law_shown T.F_law_shown.kp T.b_law_shown passL (pa_cons (pv 7) pa_nil)) (pv 6) (nomark _)) (pw_or1 (pt_cmpR (k_ne (K := K) rfl hr.r.units) (d1 (ok_law_shown T) (hr.mono (by decide)) (by rfl) T.m_law_shown T.F_law_shown.kp T.b_law_shown passL (pa_cons (kc0 (ok_columns T) (hr.mono (by decide)) (by rfl) T.m_columns T.F_columns.kp T.kb_columns_0_memories passL (pk_cons (pv 5) pk_nil)) pa_nil)) (pv 6) (nomark _))))) (pss_one (ps_ret pe_bl)) pss_nil)
      (pss_cons (ps_if (pt_cmpR (k_ne (K := K) rfl hr.r.units) (pe_lock (pe_lc (own := [("_law_memory", 14)]) (g := (gName 14)) (tt := tYes) rfl sc_law_right.nd (pi_values (pv 5)) (blkOk_by (own := [("_law_memory", 14)]) (N := ["_law_pot_here", "_law_wide_here", "_law_spots", "_law_worlds_here", "_law_model", "_law_handed", "_law_due", "_law_told", "_law_before", "_law_rest", "_law_many", "_law_numbers", "_law_being", "_law_one", "_law_memory", "_law_row_here"]) (sc := defScope s_law_right) (by decide +kernel)) (fun _ _ _ _ _ => (pg_name (i := 14) sc_law_right.nd rfl (Or.inl rfl))) (fun _ _ _ _ _ => pts_nil) (fun _ _ _ _ _ => (dm0 T.cl_Memory T.me_Memory_runs (ok_Memory_runs T) (hr.mono (by decide)) T.b_Memory_runs passL (pv 14))))) (pe_lock (pe_lc (own := [("_law_being", 12)]) (g := (gName 12)) (tt := tYes) rfl sc_law_right.nd (pi_keys (pv 5)) (blkOk_by (own := [("_law_being", 12)]) (N := ["_law_pot_here", "_law_wide_here", "_law_spots", "_law_worlds_here", "_law_model", "_law_handed", "_law_due", "_law_told", "_law_before", "_law_rest", "_law_many", "_law_numbers", "_law_being", "_law_one", "_law_memory", "_law_row_here"]) (sc := defScope s_law_right) (by decide +kernel)) (fun _ _ _ _ _ => (pg_name (i := 12) sc_law_right.nd rfl (Or.inl rfl))) (fun _ _ _ _ _ => pts_nil) (fun _ _ _ _ _ => (pe_dget (u1 hr.r.units) (pe_dget (u1 hr.r.units) (pv 4) pe_str (fun _ _ => rfl)) (pv 12) (fun _ _ => rfl))))) (nomark _)) (pss_one (ps_ret pe_bl)) pss_nil)
      (pss_cons (ps_expr (dm T.cl_Memory T.me_Memory_fill (ok_Memory_fill T) (hr.mono (by decide)) T.b_Memory_fill passL (pe_dget (u1 hr.r.units) (pv 5) (pe_ix (k_ix (K := K) rfl) (pv 3) pe_int (fun _ _ => rfl)) (fun _ _ => rfl)) (pa_cons pe_int (pa_cons (pv 1) (pa_cons (pe_op o_pow pe_int pe_int) pa_nil)))))
      (pss_cons (ps_if (pt_cmpR (k_ne (K := K) rfl hr.r.units) (d1 (ok_law_shown T) (hr.mono (by decide)) (by rfl) T.m_law_shown T.F_law_shown.kp T.b_law_shown passL (pa_cons (pv 7) pa_nil)) (pv 6) (nomark _)) (pss_one (ps_ret pe_bl)) pss_nil)
      (pss_cons (ps_set (i := 8) sc_law_right.nd rfl (Or.inl rfl) (pe_callTy call_dictA (by rfl) T.n_dict (by decide +kernel) (pa_cons (pe_dget (u1 hr.r.units) (pv 4) pe_str (fun _ _ => rfl)) pa_nil)))
      (pss_cons (ps_asg (pe_lst (pa_cons (pe_tup (pa_cons (pv 1) (pa_cons (pe_op o_pow pe_int pe_int) pa_nil))) pa_nil)) (pg_sub (pe_dget (u1 hr.r.units) (pv 4) pe_str (fun _ _ => rfl)) (pe_ix (k_ix (K := K) rfl) (pv 3) pe_int (fun _ _ => rfl)) (set_dict (u1 hr.r.units))))
      (pss_cons (ps_set (i := 9) sc_law_right.nd rfl (Or.inl rfl) (d1 (ok_law_columns T) (hr.mono (by decide)) (by rfl) T.m_law_columns T.F_law_columns.kp T.b_law_columns passL (pa_cons (pe_disp (pps_cons pe_str (pe_callTy (k_dictP (K := K) rfl rfl) (by rfl) T.n_dict (by decide +kernel) (pa_cons (pe_lock (pe_lc (own := [("_law_being", 12), ("_law_row_here", 15)]) (g := (gTup K 2 (gCons (gName 12) (gCons (gName 15) gNil)))) (tt := tYes) rfl sc_law_right.nd (pi_items (pv 8)) (blkOk_by (own := [("_law_being", 12), ("_law_row_here", 15)]) (N := ["_law_pot_here", "_law_wide_here", "_law_spots", "_law_worlds_here", "_law_model", "_law_handed", "_law_due", "_law_told", "_law_before", "_law_rest", "_law_many", "_law_numbers", "_law_being", "_law_one", "_law_memory", "_law_row_here"]) (sc := defScope s_law_right) (by decide +kernel)) (fun _ _ _ _ _ => (k_gtup (K := K) 2 rfl rfl (pgs_cons (pg_name (i := 12) sc_law_right.nd rfl (Or.inl rfl)) (pgs_cons (pg_name (i := 15) sc_law_right.nd rfl (Or.inl rfl)) pgs_nil)))) (fun _ _ _ _ _ => pts_nil) (fun _ _ _ _ _ => (pe_tup (pa_cons (pv 12) (pa_cons (d1 (ok_law_joined T) (hr.mono (by decide)) (by rfl) T.m_law_joined T.F_law_joined.kp T.b_law_joined passL (pa_cons (pv 15) pa_nil)) pa_nil)))))) pa_nil)) pps_nil) (by rfl) (by rfl) (fun z => by cases z) (by decide)) pa_nil)))
      (pss_cons (ps_for (passes_of rfl) rfl (k_plist (K := K) rfl (pv 7)) (k_gtup (K := K) 2 rfl rfl (pgs_cons (pg_name (i := 10) sc_law_right.nd rfl (Or.inl rfl)) (pgs_cons (pg_name (i := 11) sc_law_right.nd rfl (Or.inl rfl)) pgs_nil)))
      (pss_cons (ps_if (pt_cmpR (k_ne (K := K) rfl hr.r.units) (d1 (ok_law_shown T) (hr.mono (by decide)) (by rfl) T.m_law_shown T.F_law_shown.kp T.b_law_shown passL (pa_cons (pe_lst (pa_cons (pe_tup (pa_cons (pv 10) (pa_cons (pv 11) pa_nil))) pa_nil)) pa_nil)) (d1 (ok_law_shown T) (hr.mono (by decide)) (by rfl) T.m_law_shown T.F_law_shown.kp T.b_law_shown passL (pa_cons (pe_slice (k_sl (K := K) rfl) (pv 9) po_none (po_some pe_int)) pa_nil)) (nomark _)) (pss_one (ps_ret pe_bl)) pss_nil)
      (pss_cons (ps_expr (pe_bm0 PySem.F.plainAttrs_dict PySem.F.slot_dict_clear PySem.F.type_dict_clear mtd_clr (pv 11)))
      (pss_one (ps_set (i := 9) sc_law_right.nd rfl (Or.inl rfl) (pe_slice (k_sl (K := K) rfl) (pv 9) (po_some pe_int) po_none))))))
      (pss_cons (ps_expr (pe_bm0 PySem.F.plainAttrs_list PySem.F.slot_list_clear PySem.F.type_list_clear mt_clear (pv 7)))
      (pss_one (ps_ret (pe_cmpR (k_eq (K := K) rfl hr.r.units) (d1 (ok_law_shown T) (hr.mono (by decide)) (by rfl) T.m_law_shown T.F_law_shown.kp T.b_law_shown passL (pa_cons (d1 (ok_columns T) (hr.mono (by decide)) (by rfl) T.m_columns T.F_columns.kp T.b_columns passL (pa_cons (pv 5) pa_nil)) pa_nil)) (d1 (ok_law_shown T) (hr.mono (by decide)) (by rfl) T.m_law_shown T.F_law_shown.kp T.b_law_shown passL (pa_cons (d1 (ok_law_columns T) (hr.mono (by decide)) (by rfl) T.m_law_columns T.F_law_columns.kp T.b_law_columns passL (pa_cons (pv 4) pa_nil)) pa_nil)) (nomark _)))))))))))))))))))), ?_⟩
    dsimp only [cxOf, st_1, st_2, st_3, st_4, st_5, st_6, List.length_cons, List.length_nil, List.replicate_succ, List.replicate_zero, Nat.reduceAdd, Nat.reduceSub]
    walk_at "ns"
    refine ⟨p, rfl, hp, fun n H1 n1 n2 hp1 k1 => ?_⟩
    walk_at "ns"
    refine a_new fun S H2 fS k2 hS => ?_
    walk_at "ns"
    refine a_new fun T0 H3 fT0 k3 hT0 => ?_
    walk_at "ns"
    have hp3 := (hp1.kp k2 not_nil).kp k3 not_nil
    have hS3 := k3.at_ _ _ hS not_nil
    have nSp : S ≠ p := Ne.symm (hp1.ne fS)
    refine ⟨p, rfl, hp3, fun W ws H4 hp4 k4 hW ndw w1 w7 bw fW => ?_⟩
    have hS4 := k4.at_ _ _ hS3 (not_one nSp)
    have nWp : W ≠ p := Ne.symm (hp3.ne fW)
    have nWS : W ≠ S := Ne.symm (fr_ne hS3 fW)
    walk_at "ns"
    refine a_disp1t fun M H5 fM k5 hM => ?_
    have hp5 := hp4.kp k5 not_nil
    have hS5 := k5.at_ _ _ hS4 not_nil
    have hW5 := k5.at_ _ _ hW not_nil
    have nMp : M ≠ p := Ne.symm (hp4.ne fM)
    have nMS : M ≠ S := Ne.symm (fr_ne hS4 fM)
    have nMW : M ≠ W := Ne.symm (fr_ne hW fM)
    walk_at "ns"
    refine i_elts (SqL.of hW5) (fun D j H' => PotAt H' p ∧ Kp [p, S] H5 H' ∧ (∃ ss : List Int, H' S = some (.lst (ss.map V.int)) ∧ ss ≠ [] ∧ ss.length ≤ 1 + 6 * j ∧ ∀ x ∈ ss, 0 ≤ x ∧ x ≤ n) ∧ ∃ (ys : List V) (rw : List (Int × Addr)) (c : Int → List Int), H' D = some (.lst ys) ∧ KvsAt H' ys (rw.map fun q => (q.1, V.ref q.2)) ∧ rw.map (·.1) = ws.take j ∧ RwAt K H' n c rw ∧ (∀ q ∈ rw, ∀ v ∈ c q.1, okM v) ∧ ∀ q ∈ rw, Fr H5 q.2 ∧ q.2 ≠ D) ?_ ?_ ?_ ?_
    · intro D fD
      refine ⟨hp5.kp (Kp.new fD) not_nil, Kp.new fD, ⟨[0], (Kp.new (ws := []) fD).at_ _ _ hS5 not_nil, by simp, by simp, fun x hx => ?_⟩, [], [], fun _ => [], upd_same, trivial, rfl, ⟨(fun q hq => nomatch hq), (fun q hq => nomatch hq)⟩, (fun q hq => nomatch hq), (fun q hq => nomatch hq)⟩
      rw [List.mem_singleton.mp hx]
      omega
    · rintro D i H' fD _ ⟨_, kk, _⟩
      exact SqL.of (kk.at_ _ _ hW5 (not_two nWp nWS))
    · rintro D j x H6 fD hx ⟨hp6, kk, ⟨ss, hS6, sne, sl, sb⟩, ys, rw, c, hD, py, em, ra, okc, ne⟩
      obtain ⟨w, hw, rfl⟩ := map_get hx
      have hjl := (List.getElem?_eq_some_iff.mp hw).1
      have nDp : D ≠ p := Ne.symm (hp5.ne fD)
      have nDS : D ≠ S := Ne.symm (fr_ne hS5 fD)
      walk_at "ns"
      refine ⟨p, S, n, ss, rfl, hp6, hS6, nSp, n1, n2, sne, by omega, sb, fun l H7 cs ss' hp7 k7 hS7 sne' sl' sb' ld lcs rcs ocs fl => ?_⟩
      walk_at "ns"
      refine a_new fun P H8 fP k8 hP => ?_
      walk_at "ns"
      have lyr := py.len
      rw [List.length_map] at lyr
      have lrj := congrArg List.length em
      rw [List.length_map, List.length_take] at lrj
      have k68 : Kp [p, S] H6 H8 := Kp.trans k7 k8.wide
      have hD8 := k68.at_ _ _ hD (not_two nDp nDS)
      have kA : Kp [D] H8 (upd H8 D (.lst (ys ++ [V.ref P]))) := kp_set hD8 (fun z => z)
      have nlD : l ≠ D := Ne.symm (fr_ne hD fl)
      have flH : Fr H5 l := kk.free fl
      have nw : w ∉ rw.map (·.1) := by
        rw [em]
        exact nin_take ndw hw
      have nq : ∀ q ∈ rw, q.2 ∉ [p, S] := fun q hq => not_two (Ne.symm (hp5.ne (ne q hq).1)) (Ne.symm (fr_ne hS5 (ne q hq).1))
      have e1 : ∀ q ∈ rw, (if q.1 = w then cs else c q.1) = c q.1 := fun q hq => if_neg fun z => nw (by rw [← z]; exact List.mem_map.mpr ⟨q, hq, rfl⟩)
      refine ⟨ys, hD8, small_sz (by omega), (hp7.kp k8 not_nil).kp kA (not_one (Ne.symm nDp)), Kp.upd (Kp.trans kk k68) fD, ⟨ss', by rw [upd_ne (Ne.symm nDS)]; exact k8.at_ _ _ hS7 not_nil, sne', by omega, sb'⟩, ys ++ [.ref P], rw ++ [(w, l)], fun x => if x = w then cs else c x, upd_same, ?_, ?_, ?_, fun q hq v hv => ?_, fun q hq => ?_⟩
      · rw [List.map_append]
        exact KvsAt.snoc (q := (w, V.ref l)) (kA.fix _ _ hP trivial) ((py.kp k68).kp kA)
      · rw [List.map_append, em, List.take_add_one, hw]
        rfl
      · exact ((ra.kp k68 nq).kp kA fun q hq => not_one (ne q hq).2).snoc nw ((ld.kp k8 (imms_d2 _) not_nil).kp kA (imms_d2 _) (not_one nlD)) lcs rcs
      · rcases List.mem_append.mp hq with h | h
        · have hv : v ∈ (if q.1 = w then cs else c q.1) := hv
          rw [e1 q h] at hv
          exact okc q h v hv
        · rw [List.mem_singleton.mp h] at hv
          have hv : v ∈ (if w = w then cs else c w) := hv
          rw [if_pos rfl] at hv
          exact ocs v hv
      · rcases List.mem_append.mp hq with h | h
        · exact ne q h
        · rw [List.mem_singleton.mp h]
          exact ⟨flH, nlD⟩
    rintro D H6 fD ⟨hp6, kk, ⟨ss, hS6, sne, sl, sb⟩, ys, rw, c, hD, py, em, ra, okc, ne⟩
    rw [List.length_map, List.take_length] at em
    have ndr : (rw.map (·.1)).Nodup := by
      rw [em]
      exact ndw
    have lrw : rw.length ≤ 7 := by
      have := congrArg List.length em
      rw [List.length_map] at this
      omega
    walk_at "ns"
    refine a_dictKvs hD py (by rw [List.map_map]; exact ndr) (a_new fun R H7 fR k7 hR0 => ?_)
    have hR7 : H7 R = some (.dK (rw.map kA)) := by
      rw [hR0, List.map_map]
      rfl
    have hM6 := kk.at_ _ _ hM (not_two nMp nMS)
    have nMR : M ≠ R := fr_ne hM6 fR
    have hW7 := k7.at_ _ _ (kk.at_ _ _ hW5 (not_two nWp nWS)) not_nil
    walk_at "ns"
    refine a_dispKs (k7.at_ _ _ hM6 not_nil) fun H8 k8 hM8 => ?_
    have hW8 := k8.at_ _ _ hW7 (not_one (Ne.symm nMW))
    have hR8 := k8.at_ _ _ hR7 (not_one (Ne.symm nMR))
    have ra8 : RwAt K H8 n c rw := (ra.kp0 k7).kp k8 fun q hq => not_one (Ne.symm (fr_ne hM (ne q hq).1))
    have cw : ∀ u ∈ ws, ((c u).length : Int) = n ∧ (rle (c u)).length ≤ 7 ∧ (∀ v ∈ c u, okM v) ∧ ∃ r, (u, r) ∈ rw := fun u hu => by
      rw [← em] at hu
      obtain ⟨q, hq, rfl⟩ := List.mem_map.mp hu
      exact ⟨(ra.cl q hq).1, (ra.cl q hq).2, okc q hq, q.2, hq⟩
    walk_at "ns"
    refine i_elts (SqL.of hW8) (fun D j H' => Kp [] H8 H' ∧ ∃ (ys : List V) (es : List (Int × Addr × Addr)), H' D = some (.lst ys) ∧ KvsAt H' ys (es.map fun e => (e.1, V.ref e.2.1)) ∧ es.map (·.1) = ws.take j ∧ (∀ e ∈ es, MemL K T.c_Memory H' e.2.1 e.2.2 (c e.1) ∧ e.2.1 ≠ D ∧ e.2.2 ≠ D ∧ Tr H' e.2.1) ∧ (es.map (·.2.1)).Nodup) ?_ ?_ ?_ ?_
    · intro D fD
      exact ⟨Kp.new fD, [], [], upd_same, trivial, rfl, (fun e he => nomatch he), .nil⟩
    · rintro D i H' fD _ ⟨kk, _⟩
      exact SqL.of (kk.at_ _ _ hW8 not_nil)
    · rintro D j x H9 fD hx ⟨kk, ys, es, hD, py, em2, me, nde⟩
      obtain ⟨w, hw, rfl⟩ := map_get hx
      have hjl := (List.getElem?_eq_some_iff.mp hw).1
      have hM9 := kk.at_ _ _ hM8 not_nil
      have hR9 := kk.at_ _ _ hR8 not_nil
      obtain ⟨lw, rlw, okw, r, hr⟩ := cw w (List.mem_of_getElem? hw)
      obtain ⟨vr, hvr, avr⟩ := (ra8.ld _ hr).kp kk (imms_d2 _) not_nil
      walk_at "ns"
      refine i_dgS (v := .ref R) hM9 rfl ?_
      walk_at "ns"
      refine i_dg hR9 (val_rep ndr hr) ?_
      walk_at "ns"
      refine a_new fun L H10 fL k10 hL => ?_
      have ldL : LD K H10 L ((rle (c w)).map d2) := ⟨vr, hL, dpa_imm k10 _ _ (imms_d2 _) avr⟩
      walk_at "ns"
      refine ⟨L, c w, rfl, ldL.dp, by omega, by omega, fun m H11 fm k11 mm off => ?_⟩
      obtain ⟨l, ml⟩ := mm.lst
      walk_at "ns"
      refine a_new fun P H12 fP k12 hP => ?_
      walk_at "ns"
      have lyr := py.len
      rw [List.length_map] at lyr
      have lrj := congrArg List.length em2
      rw [List.length_map, List.length_take] at lrj
      have k9 : Kp [] H9 H12 := Kp.trans k10 (Kp.trans k11 k12)
      have hD10 := k10.at_ _ _ hD not_nil
      have nlD : l ≠ D := ml.ne (off D (tr_of hD10))
      have nmD : m ≠ D := Ne.symm (fr_ne hD10 fm)
      have hD12 := k9.at_ _ _ hD not_nil
      have kA : Kp [D] H12 (upd H12 D (.lst (ys ++ [V.ref P]))) := kp_set hD12 (fun z => z)
      have fm9 : Fr H9 m := k10.free fm
      refine ⟨ys, hD12, small_sz (by omega), Kp.upd (Kp.trans kk k9) fD, ys ++ [.ref P], es ++ [(w, m, l)], upd_same, ?_, ?_, fun e he => ?_, ?_⟩
      · rw [List.map_append]
        exact KvsAt.snoc (q := (w, V.ref m)) (kA.fix _ _ hP trivial) ((py.kp k9).kp kA)
      · rw [List.map_append, em2, List.take_add_one, hw]
        rfl
      · rcases List.mem_append.mp he with h | h
        · obtain ⟨a1, a2, a3, a5⟩ := me e h
          exact ⟨(a1.kp k9 not_nil not_nil).kp kA (not_one a2) (not_one a3), a2, a3, tr_kp kA (tr_kp k9 a5)⟩
        · rw [List.mem_singleton.mp h]
          exact ⟨(ml.kp k12 not_nil not_nil).kp kA (not_one nmD) (not_one nlD), nmD, nlD, tr_kp kA (tr_kp k12 (tr_mem mm))⟩
      · rw [List.map_append, List.nodup_append]
        refine ⟨nde, by simp, fun x hx y hy e => ?_⟩
        obtain ⟨e0, he0, rfl⟩ := List.mem_map.mp hx
        have hy' : y = m := List.mem_singleton.mp hy
        rw [hy'] at e
        exact fr_tr (me e0 he0).2.2.2 fm9 e
    rintro D9 H9 fD9 ⟨kk9, ys9, es, hD9, py9, em9, me9, nde⟩
    rw [List.length_map, List.take_length] at em9
    have ndk : (es.map (·.1)).Nodup := by
      rw [em9]
      exact ndw
    have les : es.length ≤ 7 := by
      have := congrArg List.length em9
      rw [List.length_map] at this
      omega
    walk_at "ns"
    refine a_dictKvs hD9 py9 (by rw [List.map_map]; exact ndk) (a_new fun d H10 fd k10 hd0 => ?_)
    have hd10 : H10 d = some (.dK (es.map kM)) := by
      rw [hd0, List.map_map]
      rfl
    have k810 := Kp.trans kk9 k10
    have hM10 := k810.at_ _ _ hM8 not_nil
    have hR10 := k810.at_ _ _ hR8 not_nil
    have hW10 := k810.at_ _ _ hW8 not_nil
    have ra10 := ra8.kp0 k810
    have me10 : ∀ e ∈ es, MemL K T.c_Memory H10 e.2.1 e.2.2 (c e.1) := fun e he => (me9 e he).1.kp k10 not_nil not_nil
    have nRd : R ≠ d := fr_ne (kk9.at_ _ _ hR8 not_nil) fd
    have nMd : M ≠ d := fr_ne (kk9.at_ _ _ hM8 not_nil) fd
    walk_at "ns"
    have hcr : ∀ q ∈ rw, ((c q.1).length : Int) = n ∧ (rle (c q.1)).length ≤ 24 := fun q hq => ⟨(ra.cl q hq).1, by have := (ra.cl q hq).2; omega⟩
    have hce : ∀ e ∈ es, ((c e.1).length : Int) = n ∧ (rle (c e.1)).length ≤ 24 := fun e he => by
      have he' : e.1 ∈ ws := by
        rw [← em9]
        exact List.mem_map.mpr ⟨e, he, rfl⟩
      obtain ⟨a, b, _⟩ := cw e.1 he'
      exact ⟨a, by omega⟩
    refine ⟨M, R, _, rw, n, c, rfl, hM10, rfl, nMR, hR10, fun q hq => ⟨ra10.ld q hq, ra10.ne hR10 q hq⟩, ndr, lrw, n1, hcr, fun G E xs H11 ea cv dso fG k11 hG lE => ?_⟩
    rw [em] at ea cv
    have okq := cols_ok ea (fun u hu => (cw u hu).1) n2 ndw w7 fun u hu => ⟨okI_of (by have := bw u hu; omega) (by have := bw u hu; omega), fun v hv => okI_M ((cw u hu).2.2.1 v hv)⟩
    walk_at "ns"
    refine ⟨G, xs, colsOf c ws E, rfl, hG, cv, by rw [colsOf_len]; exact lE, okq, fun H12 k12 => ?_⟩
    obtain ⟨txt, etxt⟩ : ∃ t, t = (PyData.list ((colsOf c ws E).map dCol)).shown := ⟨_, rfl⟩
    rw [← etxt]
    walk_at "ns"
    have k1012 := Kp.trans k11 k12
    refine ⟨d, es, c, n, rfl, k1012.at_ _ _ hd10 not_nil, fun e he => (me10 e he).kp k1012 not_nil not_nil, ndk, les, n1, hce, fun G2 E2 xs2 H13 ea2 cv2 dso2 fG2 k13 hG2 lE2 => ?_⟩
    rw [em9] at ea2 cv2
    obtain rfl := ea2.uniq ea
    have lx2 := cv2.len
    rw [colsOf_len] at lx2
    walk_at "ns"
    refine i_isY (.lst hG2) (show kitB "list" "list" = some true by decide +kernel) ?_
    walk_at "ns"
    refine i_mapL (SqL.of hG2) (List.replicate xs2.length (.bl true)) (by rw [List.length_replicate]) (by omega) ?_ ?_
    · intro D i x y H' Q' fD hx hy kx q
      obtain ⟨q0, t, dd, hq, rfl, ht, hdd⟩ := cv2.get hx
      have hy2 := rep_get hy
      subst hy2
      have ht' := kx.fix _ _ ht trivial
      have hdd' := kx.at_ _ _ hdd not_nil
      walk_at "ns"
      refine i_isY (.tup ht') (show kitB "tuple" "tuple" = some true by decide +kernel) ?_
      walk_at "ns"
      refine i_isY (.dK hdd') (show kitB "dict" "dict" = some true by decide +kernel) ?_
      walk_at "ns"
      exact q H' Kp.refl
    intro D1 H14 fD1 k14 hD1
    walk_at "ns"
    have eb : List.replicate xs2.length (V.bl true) = (List.replicate xs2.length true).map V.bl := by rw [List.map_replicate]
    rw [eb] at hD1
    refine i_all (SqL.of hD1) ?_
    have ea' : (List.replicate xs2.length true).all id = true := by simp
    rw [ea']
    walk_at "ns"
    have cv14 := cv2.kp k14
    have hG14 := k14.at_ _ _ hG2 not_nil
    refine ⟨G2, xs2, _, rfl, hG14, cv14, by rw [colsOf_len]; exact lE2, okq, fun H15 k15 => ?_⟩
    rw [← etxt]
    walk_at "ns"
    rw [decide_eq_true rfl]
    walk_at "ns"
    have k1015 := Kp.trans k1012 (Kp.trans k13 (Kp.trans k14 k15))
    refine ⟨d, es, c, n, rfl, k1015.at_ _ _ hd10 not_nil, fun e he => (me10 e he).kp k1015 not_nil not_nil, ndk, les, n1, hce, fun G3 E3 xs3 H16 ea3 cv3 dso3 fG3 k16 hG3 lE3 => ?_⟩
    rw [em9] at ea3 cv3
    obtain rfl := ea3.uniq ea2
    walk_at "ns"
    refine ⟨G3, xs3, _, rfl, hG3, cv3, by rw [colsOf_len]; exact lE3, okq, fun H17 k17 => ?_⟩
    rw [← etxt]
    walk_at "ns"
    rw [decide_eq_true rfl]
    walk_at "ns"
    have k1017 := Kp.trans k1015 (Kp.trans k16 k17)
    have hd17 := k1017.at_ _ _ hd10 not_nil
    have hM17 := k1017.at_ _ _ hM10 not_nil
    have hR17 := k1017.at_ _ _ hR10 not_nil
    have hW17 := k1017.at_ _ _ hW10 not_nil
    have ra17 := ra10.kp0 k1017
    have me17 : ∀ e ∈ es, MemL K T.c_Memory H17 e.2.1 e.2.2 (c e.1) := fun e he => (me10 e he).kp k1017 not_nil not_nil
    have ndf : ∀ e ∈ es, e.2.1 ≠ d ∧ e.2.2 ≠ d := fun e he => by
      obtain ⟨dx, h1, vs, h2, _⟩ := me17 e he
      refine ⟨fun z => ?_, fun z => ?_⟩
      · rw [z, hd17] at h1
        cases h1
      · rw [z, hd17] at h2
        cases h2
    have k1317 : Kp [] H13 H17 := Kp.trans (Kp.trans k14 k15) (Kp.trans k16 k17)
    have cv17 := cv2.kp k1317
    have hG17 := k1317.at_ _ _ hG2 not_nil
    have dso17 := dso2.kp k1317
    have f0_17 : Fx H H17 := fx_kp k1017 (fx_kp k810 (fx_kp k8 (fx_kp k7 (fx_kp kk (fx_kp k5 (fx_kp k4 (fx_kp k3 (fx_kp k2 (fx_kp k1 fx_refl)))))))))
    refine a_lockE hd17 fun od HF kF hF lk => ?_
    have meF : ∀ e ∈ es, MemL K T.c_Memory HF e.2.1 e.2.2 (c e.1) := fun e he => (me17 e he).kp kF (not_one (ndf e he).1) (not_one (ndf e he).2)
    walk_at "ns"
    refine i_lcV ?_
    walk_at "ns"
    refine i_valG hF (fun D i H' => Kp [] HF H' ∧ ∃ ys, H' D = some (.lst ys) ∧ LdsAt K D H' ys ((es.take i).map fun e => rle (c e.1))) ?_ ?_ ?_ ?_
    · intro D fD
      exact ⟨Kp.new fD, [], upd_same, trivial⟩
    · rintro D i H' fD ⟨kk, _⟩
      exact kk.at_ _ _ hF not_nil
    · rintro D i ky v H18 fD hy ⟨kk, ys, hD, lds⟩
      obtain ⟨e, he, ev⟩ := map_get hy
      cases ev
      have hil := (List.getElem?_eq_some_iff.mp he).1
      have ml := (meF e (List.mem_of_getElem? he)).kp kk not_nil not_nil
      have mm := ml.mem
      obtain ⟨dxm, hmm, ldm⟩ := id ml
      walk_at "ns"
      refine ⟨e.2.1, c e.1, rfl, mm, fun l H19 fl k19 ld => ?_⟩
      walk_at "ns"
      have lyr := lds.len
      rw [List.length_map, List.length_take] at lyr
      have hD19 := k19.at_ _ _ hD not_nil
      have nlD : l ≠ D := Ne.symm (fr_ne hD fl)
      have kA : Kp [D] H19 (upd H19 D (.lst (ys ++ [V.ref l]))) := kp_set hD19 (fun z => z)
      refine ⟨ys, hD19, small_sz (by omega), Kp.upd (Kp.trans kk k19) fD, ys ++ [.ref l], upd_same, ?_⟩
      rw [List.take_add_one, he, List.map_append]
      exact LdsAt.snoc (ld.kp kA (imms_d2 _) (not_one nlD)) nlD ((lds.kp k19 fun b hb => nomatch hb).kp kA fun b hb => List.mem_singleton.mp hb)
    rintro DA H18 fDA ⟨kk18, ysA, hDA, ldsA⟩
    rw [List.length_map, List.take_length] at ldsA
    have hf18 := kk18.at_ _ _ hF not_nil
    refine ⟨hf18, a_unl lk kk18 not_nil fun H19 ul hd19 k19 => ?_⟩
    have nAd : DA ≠ d := fun z => by
      rw [z, hf18] at hDA
      cases hDA
    have hDA19 := ul.e _ _ nAd hDA
    have ldsA19 := ldsA.ul ul hf18
    walk_at "ns"
    refine a_lockE hd19 fun od2 HF2 kF2 hF2 lk2 => ?_
    have nMd : M ≠ d := nMd
    have hMF := kF2.at_ _ _ (k19.at_ _ _ hM17 not_nil) (not_one nMd)
    have hRF := kF2.at_ _ _ (k19.at_ _ _ hR17 not_nil) (not_one nRd)
    have raF : RwAt K HF2 n c rw := (ra17.kp0 k19).kp kF2 fun q hq => not_one fun z => (ra17.ne hd17 q hq) z
    walk_at "ns"
    refine i_keyG hF2 (fun D i H' => Kp [] HF2 H' ∧ ∃ ys, H' D = some (.lst ys) ∧ LdsAt K D H' ys ((es.take i).map fun e => rle (c e.1))) ?_ ?_ ?_ ?_
    · intro D fD
      exact ⟨Kp.new fD, [], upd_same, trivial⟩
    · rintro D i H' fD ⟨kk, _⟩
      exact kk.at_ _ _ hF2 not_nil
    · rintro D i ky v H20 fD hy ⟨kk, ys, hD, lds⟩
      obtain ⟨e, he, ev⟩ := map_get hy
      cases ev
      have hil := (List.getElem?_eq_some_iff.mp he).1
      have hew : e.1 ∈ ws := by
        rw [← em9]
        exact List.mem_map.mpr ⟨e, List.mem_of_getElem? he, rfl⟩
      obtain ⟨_, _, _, r, hr⟩ := cw e.1 hew
      have hM20 := kk.at_ _ _ hMF not_nil
      have hR20 := kk.at_ _ _ hRF not_nil
      have ldr := (raF.ld _ hr).kp kk (imms_d2 _) not_nil
      have nrD : r ≠ D := (raF.ld _ hr).ne fD
      walk_at "ns"
      refine i_dgS (v := .ref R) hM20 rfl ?_
      walk_at "ns"
      refine i_dg hR20 (val_rep ndr hr) ?_
      walk_at "ns"
      have lyr := lds.len
      rw [List.length_map, List.length_take] at lyr
      have kA : Kp [D] H20 (upd H20 D (.lst (ys ++ [V.ref r]))) := kp_set hD (fun z => z)
      refine ⟨ys, hD, small_sz (by omega), Kp.upd kk fD, ys ++ [.ref r], upd_same, ?_⟩
      rw [List.take_add_one, he, List.map_append]
      exact LdsAt.snoc (ldr.kp kA (imms_d2 _) (not_one nrD)) nrD (lds.kp kA fun b hb => List.mem_singleton.mp hb)
    rintro DB H20 fDB ⟨kk20, ysB, hDB, ldsB⟩
    rw [List.length_map, List.take_length] at ldsB
    have hf20 := kk20.at_ _ _ hF2 not_nil
    refine ⟨hf20, a_unl lk2 kk20 not_nil fun H21 ul2 hd21 k21 => ?_⟩
    have nBd : DB ≠ d := fun z => by
      rw [z, hf20] at hDB
      cases hDB
    have hDB21 := ul2.e _ _ nBd hDB
    have ldsB21 := ldsB.ul ul2 hf20
    have hDA21 := k21.at_ _ _ hDA19 not_nil
    have ldsA21 := ldsA19.kp k21 fun b hb => nomatch hb
    refine ne_same (.lst (SqL.of hDA21) ldsA21.dpa) (.lst (SqL.of hDB21) ldsB21.dpa) (shaped_lds _) ?_
    walk_at "ns"
    have k1721 := Kp.trans k19 k21
    have me21 : ∀ e ∈ es, MemL K T.c_Memory H21 e.2.1 e.2.2 (c e.1) := fun e he => (me17 e he).kp k1721 not_nil not_nil
    have hW21 := k1721.at_ _ _ hW17 not_nil
    have hM21 := k1721.at_ _ _ hM17 not_nil
    have hR21 := k1721.at_ _ _ hR17 not_nil
    have hG21 := k1721.at_ _ _ hG17 not_nil
    have cv21 := cv17.kp k1721
    have dso21 := dso17.kp k1721
    have ra21 := ra17.kp0 k1721
    obtain ⟨w0, hw0⟩ : ∃ w0, ws[0]? = some w0 := ⟨_, List.getElem?_eq_getElem (by omega)⟩
    have hw0V : (ws.map V.int)[0]? = some (.int w0) := by
      rw [List.getElem?_map, hw0]
      rfl
    obtain ⟨e0, he0, ee0⟩ : ∃ e0 ∈ es, e0.1 = w0 := by
      have := List.mem_of_getElem? hw0
      rw [← em9] at this
      obtain ⟨e, he, ee⟩ := List.mem_map.mp this
      exact ⟨e, he, ee⟩
    obtain ⟨w0', m0, l0⟩ := e0
    have ee0 : w0' = w0 := ee0
    subst ee0
    refine i_ixL (SqL.of hW21) (atI_nat (j := 0) hw0V) ?_
    walk_at "ns"
    refine i_dg hd21 (val_kM ndk he0) ?_
    obtain ⟨dx0, hm0, ldl0⟩ := id (me21 _ he0)
    have hm0 : H21 m0 = _ := hm0
    walk_at "ns"
    refine i_pw41 ?_
    walk_at "ns"
    have lc0 : ((c w0').length : Int) = n := (hce _ he0).1
    have rc0 : (rle (c w0')).length ≤ 24 := (hce _ he0).2
    refine ⟨m0, 0, n, 100000000000000000000000000000000000000000, c w0', rfl, (me21 _ he0).mem, by omega, by omega, fun H22 k22 mm22 off22 => ?_⟩
    have enl : (n - 0).toNat = n.toNat := by rw [Int.sub_zero]
    rw [enl, show (0 : Int).toNat = 0 from rfl, laid_all (by omega)] at mm22
    obtain ⟨v, ev⟩ : ∃ v : Int, v = 100000000000000000000000000000000000000000 := ⟨_, rfl⟩
    rw [← ev] at mm22
    obtain ⟨l', ml'⟩ := mm22.lst
    obtain ⟨c', ec'⟩ : ∃ c' : Int → List Int, c' = fun x => if x = w0' then List.replicate n.toNat v else c x := ⟨_, rfl⟩
    have c'0 : c' w0' = List.replicate n.toNat v := by
      rw [ec']
      exact if_pos rfl
    have c'n : ∀ u, u ≠ w0' → c' u = c u := fun u hu => by
      rw [ec']
      exact if_neg hu
    have keq : ∀ e ∈ es, e.1 = w0' → e = (w0', m0, l0) := fun e he h => nd_inj ndk he he0 h
    obtain ⟨es', ees'⟩ : ∃ es', es' = es.map fun e => if e.1 = w0' then (w0', m0, l') else e := ⟨_, rfl⟩
    have ek' : es'.map kM = es.map kM := by
      rw [ees', List.map_map]
      refine List.map_congr_left fun e he => ?_
      show kM (if e.1 = w0' then (w0', m0, l') else e) = kM e
      by_cases h : e.1 = w0'
      · rw [if_pos h, keq e he h]
        rfl
      · rw [if_neg h]
    have ek1 : es'.map (·.1) = ws := by
      rw [← em9, ees', List.map_map]
      refine List.map_congr_left fun e he => ?_
      show (if e.1 = w0' then (w0', m0, l') else e).1 = e.1
      by_cases h : e.1 = w0'
      · rw [if_pos h]
        exact h.symm
      · rw [if_neg h]
    have me22 : ∀ e ∈ es', MemL K T.c_Memory H22 e.2.1 e.2.2 (c' e.1) := fun e he => by
      rw [ees'] at he
      obtain ⟨e1, he1, rfl⟩ := List.mem_map.mp he
      by_cases h : e1.1 = w0'
      · rw [if_pos h]
        show MemL K T.c_Memory H22 m0 l' (c' w0')
        rw [c'0]
        exact ml'
      · rw [if_neg h, c'n e1.1 h]
        obtain ⟨dx, h1, vs, h2, h3⟩ := id (me21 e1 he1)
        exact (me21 e1 he1).kp k22 (not_one fun z => h (by rw [nd_inj nde he1 he0 z])) (not_one fun z => by
          rw [z, hm0] at h2
          cases h2)
    have hd22 : H22 d = some (.dK (es'.map kM)) := by
      rw [ek']
      exact k22.at_ _ _ hd21 (not_one (Ne.symm (ndf _ he0).1))
    have hM22 := k22.at_ _ _ hM21 (not_one fun z => by rw [z, hm0] at hM21; cases hM21)
    have hR22 := k22.at_ _ _ hR21 (not_one fun z => by rw [z, hm0] at hR21; cases hR21)
    have hW22 := k22.at_ _ _ hW21 (not_one fun z => by rw [z, hm0] at hW21; cases hW21)
    have hG22 := k22.at_ _ _ hG21 (not_one fun z => by rw [z, hm0] at hG21; cases hG21)
    have ra22 : RwAt K H22 n c rw := ra21.kp k22 fun q hq => not_one fun z => by
      obtain ⟨vs, e, _⟩ := ra21.ld q hq
      rw [z, hm0] at e
      cases e
    have cv22 := cv21.kni k22 hm0
    walk_at "ns"
    refine ⟨G2, xs2, _, rfl, hG22, cv22, by rw [colsOf_len]; exact lE2, okq, fun H23 k23 => ?_⟩
    rw [← etxt]
    walk_at "ns"
    rw [decide_eq_true rfl]
    walk_at "ns"
    have hR23 := k23.at_ _ _ hR22 not_nil
    refine i_dgS (v := .ref R) (k23.at_ _ _ hM22 not_nil) rfl ?_
    walk_at "ns"
    refine a_dictA hR23 (a_new fun B H24 fB k24 hB => ?_)
    have nRB : R ≠ B := fr_ne hR23 fB
    walk_at "ns"
    refine i_pw41 ?_
    rw [← ev]
    walk_at "ns"
    refine a_new fun T1 H25 fT1 k25 hT1 => ?_
    walk_at "ns"
    refine a_new fun L1 H26 fL1 k26 hL1 => ?_
    walk_at "ns"
    have k2226 := Kp.trans k23 (Kp.trans k24 (Kp.trans k25 k26))
    have hM26 := k2226.at_ _ _ hM22 not_nil
    have hR26 := k2226.at_ _ _ hR22 not_nil
    have hW26 := k2226.at_ _ _ hW22 not_nil
    have hG26 := k2226.at_ _ _ hG22 not_nil
    have hd26 := k2226.at_ _ _ hd22 not_nil
    have hB26 := (Kp.trans k25 k26).at_ _ _ hB not_nil
    have ra26 := ra22.kp0 k2226
    have cv26 := cv22.kp k2226
    have me26 : ∀ e ∈ es', MemL K T.c_Memory H26 e.2.1 e.2.2 (c' e.1) := fun e he => (me22 e he).kp k2226 not_nil not_nil
    refine i_dgS (v := .ref R) hM26 rfl ?_
    walk_at "ns"
    refine i_ixL (SqL.of hW26) (atI_nat (j := 0) hw0V) ?_
    walk_at "ns"
    refine a_setK hR26 (by rw [List.length_map]; omega) fun H27 k27 hR27 => ?_
    have w0r : w0' ∈ rw.map (·.1) := by
      rw [em]
      exact List.mem_of_getElem? hw0
    rw [put_kA w0r] at hR27
    have nL1R : L1 ≠ R := fun z => by
      rw [z, hR26] at hL1
      cases hL1
    have ra27 : RwAt K H27 n c rw := ra26.kp k27 fun q hq => not_one (ra26.ne hR26 q hq)
    obtain ⟨rw', erw⟩ : ∃ rw', rw' = rw.map fun q => if q.1 = w0' then (w0', L1) else q := ⟨_, rfl⟩
    have kw' : rw'.map (·.1) = ws := by
      rw [erw, keys_set]
      exact em
    rw [← erw] at hR27
    have lL1 : LD K H27 L1 ((rle (List.replicate n.toNat v)).map d2) := by
      rw [rle_one n1]
      exact ⟨_, k27.at_ _ _ hL1 (not_one nL1R), dpa_one (dp_mk2 (a := T1) (m := n) (n := v) (SqT.of ((Kp.trans k26.wide k27).fix _ _ hT1 trivial)))⟩
    have rle1 : (rle (List.replicate n.toNat v)).length = 1 := by
      rw [rle_one n1]
      rfl
    have ra27' : RwAt K H27 n c' rw' := by
      refine ⟨fun q hq => ?_, fun q hq => ?_⟩ <;> rw [erw] at hq <;> obtain ⟨q1, hq1, rfl⟩ := List.mem_map.mp hq <;> by_cases h : q1.1 = w0'
      · rw [if_pos h]
        show LD K H27 L1 ((rle (c' w0')).map d2)
        rw [c'0]
        exact lL1
      · rw [if_neg h, c'n _ h]
        exact ra27.ld q1 hq1
      · rw [if_pos h]
        show (((c' w0').length : Nat) : Int) = n ∧ (rle (c' w0')).length ≤ 7
        rw [c'0, rle1, List.length_replicate]
        omega
      · rw [if_neg h, c'n _ h]
        exact ra27.cl q1 hq1
    have hM27 := k27.at_ _ _ hM26 (not_one nMR)
    have hd27 := k27.at_ _ _ hd26 (not_one (Ne.symm nRd))
    have hB27 := k27.at_ _ _ hB26 (not_one (Ne.symm nRB))
    have hG27 := k27.at_ _ _ hG26 (not_one fun z => by rw [z, hR26] at hG26; cases hG26)
    have me27 : ∀ e ∈ es', MemL K T.c_Memory H27 e.2.1 e.2.2 (c' e.1) := fun e he => by
      obtain ⟨dx, h1, vs, h2, h3⟩ := id (me26 e he)
      exact (me26 e he).kp k27 (not_one fun z => by rw [z, hR26] at h1; cases h1) (not_one fun z => by rw [z, hR26] at h2; cases h2)
    obtain ⟨ds2, dof2, dnd2, dfr2⟩ := id dso2
    have k1326 : Kp [m0] H13 H26 := Kp.trans (Kp.trans (Kp.trans k1317 k1721).wide k22) k2226.wide
    have dof26 := dof2.kp k1326
    have hR12 := k1012.at_ _ _ hR10 not_nil
    have nds : ∀ x ∈ ds2, R ≠ x := fun x hx => fr_ne hR12 (dfr2 x hx).1
    have cv27 := cv26.kds k27 dof26 fun x hx => not_one (Ne.symm (nds x hx))
    have dof27 := dof26.kp k27
    walk_at "ns"
    refine a_disp1t fun M2 H28 fM2 k28 hM2 => ?_
    walk_at "ns"
    have hB28 := k28.at_ _ _ hB27 not_nil
    have ra28 := ra27.kp0 k28
    refine a_lockE hB28 fun od3 HF3 kF3 hF3 lk3 => ?_
    have raF3 : RwAt K HF3 n c rw := ra28.kp kF3 fun q hq => not_one (ra28.ne hB28 q hq)
    walk_at "ns"
    refine i_pairG hF3 (fun D i H' => Kp [] HF3 H' ∧ ∃ (ys : List V) (rv : List (Int × Addr)), H' D = some (.lst ys) ∧ KvsAt H' ys (rv.map fun q => (q.1, V.ref q.2)) ∧ rv.map (·.1) = (rw.take i).map (·.1) ∧ RwAt K H' n c rv ∧ ∀ q ∈ rv, q.2 ≠ D) ?_ ?_ ?_ ?_
    · intro D fD
      exact ⟨Kp.new fD, [], [], upd_same, trivial, rfl, ⟨(fun q hq => nomatch hq), (fun q hq => nomatch hq)⟩, (fun q hq => nomatch hq)⟩
    · rintro D i H' fD ⟨kk, _⟩
      exact kk.at_ _ _ hF3 not_nil
    · rintro D i ky vv U H29 fD hy ⟨kk, ys, rv, hD, py, em3, rav, nev⟩ fU
      obtain ⟨q, hq, ev2⟩ := map_get hy
      cases ev2
      have hqm := List.mem_of_getElem? hq
      have hil := (List.getElem?_eq_some_iff.mp hq).1
      have kU : Kp [] H29 (upd H29 U (.tup [V.int q.1, V.ref q.2])) := Kp.new fU
      have hU : (upd H29 U (.tup [V.int q.1, V.ref q.2])) U = some (.tup [V.int q.1, V.ref q.2]) := upd_same
      show gTup K 2 _ (.ref U) _ (upd H29 U (.tup [V.int q.1, V.ref q.2])) _
      obtain ⟨H30, e30⟩ : ∃ H30, H30 = upd H29 U (.tup [V.int q.1, V.ref q.2]) := ⟨_, rfl⟩
      rw [← e30] at kU hU ⊢
      walk_at "ns"
      have ldq := ((raF3.ld q hqm).kp kk (imms_d2 _) not_nil).kp kU (imms_d2 _) not_nil
      obtain ⟨lq1, lq2⟩ := raF3.cl q hqm
      refine ⟨q.2, rle (c q.1), rfl, ldq.dp, by omega, rle_pos (c q.1), fun l H31 fl k31 ld => ?_⟩
      rw [jnd_rle, cells_rle] at ld
      walk_at "ns"
      refine a_new fun P H32 fP k32 hP => ?_
      walk_at "ns"
      have lyr := py.len
      rw [List.length_map] at lyr
      have lrj := congrArg List.length em3
      rw [List.length_map, List.length_map, List.length_take] at lrj
      have k3032 : Kp [] H29 H32 := Kp.trans kU (Kp.trans k31 k32)
      have hD30 := kU.at_ _ _ hD not_nil
      have hD32 := k3032.at_ _ _ hD not_nil
      have nlD : l ≠ D := Ne.symm (fr_ne hD30 fl)
      have kA : Kp [D] H32 (upd H32 D (.lst (ys ++ [V.ref P]))) := kp_set hD32 (fun z => z)
      refine ⟨ys, hD32, small_sz (by omega), Kp.upd (Kp.trans kk k3032) fD, ys ++ [.ref P], rv ++ [(q.1, l)], upd_same, ?_, ?_, ?_, fun z hz => ?_⟩
      · rw [List.map_append]
        exact KvsAt.snoc (q := (q.1, V.ref l)) (kA.fix _ _ hP trivial) ((py.kp k3032).kp kA)
      · rw [List.map_append, em3, List.take_add_one, hq, List.map_append]
        rfl
      · exact ((rav.kp0 k3032).kp kA fun z hz => not_one (nev z hz)).push ((ld.kp k32 (imms_d2 _) not_nil).kp kA (imms_d2 _) (not_one nlD)) lq1 lq2
      · rcases List.mem_append.mp hz with h | h
        · exact nev z h
        · rw [List.mem_singleton.mp h]
          exact nlD
    rintro D3 H29 fD3 ⟨kk3, ys3, rv, hD3, py3, em3, rav, nev⟩
    rw [List.length_map, List.take_length, em] at em3
    have hf29 := kk3.at_ _ _ hF3 not_nil
    have nD3B : D3 ≠ B := fun z => by
      rw [z, hf29] at hD3
      cases hD3
    refine ⟨hf29, a_unl lk3 kk3 not_nil fun H30 ul3 hB30 k30 => ?_⟩
    have hD30 := ul3.e _ _ nD3B hD3
    have py30 := py3.ul ul3 hf29
    have ra30 := rav.ul ul3 hf29
    have ndv : (rv.map (·.1)).Nodup := by
      rw [em3]
      exact ndw
    have lrv : rv.length ≤ 7 := by
      have := congrArg List.length em3
      rw [List.length_map] at this
      omega
    walk_at "ns"
    refine a_dictKvs hD30 py30 (by rw [List.map_map]; exact ndv) (a_new fun R2 H31 fR2 k31 hR20 => ?_)
    have hR231 : H31 R2 = some (.dK (rv.map kA)) := by
      rw [hR20, List.map_map]
      rfl
    have hM230 := k30.at_ _ _ hM2 not_nil
    have nMR2 : M2 ≠ R2 := fr_ne hM230 fR2
    walk_at "ns"
    refine a_dispKs (k31.at_ _ _ hM230 not_nil) fun H32 k32 hM32 => ?_
    have hR32 := k32.at_ _ _ hR231 (not_one (Ne.symm nMR2))
    have ra31 := ra30.kp0 k31
    have ra32 : RwAt K H32 n c rv := ra31.kp k32 fun q hq => not_one fun z => by
      obtain ⟨vs, e, _⟩ := ra31.ld q hq
      rw [z, k31.at_ _ _ hM230 not_nil] at e
      cases e
    walk_at "ns"
    refine ⟨M2, R2, _, rv, n, c, rfl, hM32, rfl, nMR2, hR32, fun q hq => ⟨ra32.ld q hq, ra32.ne hR32 q hq⟩, ndv, lrv, n1, fun q hq => ⟨(ra32.cl q hq).1, by have := (ra32.cl q hq).2; omega⟩, fun G4 E4 xs4 H33 ea4 cv4 dso4 fG4 k33 hG4 lE4 => ?_⟩
    rw [em3] at ea4 cv4
    obtain rfl := ea4.uniq ea3
    walk_at "ns"
    have k2833 : Kp [M2] H27 H33 := Kp.trans (Kp.trans k28 (Kp.trans k30 k31)).wide (Kp.trans k32 k33.wide)
    have nM2 : ∀ {a : Addr} {u : HO}, H27 a = some u → a ∉ [M2] := fun h => not_one (fr_ne h fM2)
    have hG33 := k2833.at_ _ _ hG27 (nM2 hG27)
    have hd33 := k2833.at_ _ _ hd27 (nM2 hd27)
    have hM33 := k2833.at_ _ _ hM27 (nM2 hM27)
    have hR33 := k2833.at_ _ _ hR27 (nM2 hR27)
    have ra33 : RwAt K H33 n c' rw' := ra27'.kp k2833 fun q hq => by
      obtain ⟨vs, e, _⟩ := ra27'.ld q hq
      exact nM2 e
    have me33 : ∀ e ∈ es', MemL K T.c_Memory H33 e.2.1 e.2.2 (c' e.1) := fun e he => by
      obtain ⟨dx, h1, vs, h2, h3⟩ := id (me27 e he)
      exact (me27 e he).kp k2833 (nM2 h1) (nM2 h2)
    have cv33 : ColVs H33 xs2 (colsOf c ws E4) := cv27.kds k2833 dof27 fun x hx => by
      obtain ⟨kvs, e⟩ := ds_dk cv27 dof27 x hx
      exact nM2 e
    have dof33 := dof27.kp k2833
    obtain ⟨ds4, dof4, dnd4, dfr4⟩ := id dso4
    have dk33 := ds_dk cv33 dof33
    have dk32 : ∀ x ∈ ds2, Tr H32 x := fun x hx => tr_kp k32 (tr_kp k31 (tr_kp k30 (tr_kp k28 (tr_kp k27 (tr_kp k1326 (dfr2 x hx).2)))))
    have n24 : ∀ x ∈ ds2, ∀ y ∈ ds4, x ≠ y := fun x hx y hy => fr_tr (dk32 x hx) (dfr4 y hy).1
    have lx4 : xs4.length = xs2.length := by
      rw [cv4.len, cv33.len]
    refine i_each (SqL.of hG33) (fun i σ H' => ∃ (Ri : Addr) (o10 o11 : Option V), σ = [some (.ref p), some (.int n), some (.ref S), some (.ref W), some (.ref M), some (.ref d), some (.str txt), some (.ref G2), some (.ref B), some (.ref Ri), o10, o11, none, none, none, none] ∧ Kp ds2 H33 H' ∧ H' G2 = some (.lst xs2) ∧ H' Ri = some (.lst (xs4.drop i)) ∧ ColVs H' (xs2.drop i) ((colsOf c ws E4).drop i) ∧ ColVs H' (xs4.drop i) ((colsOf c ws E4).drop i)) ?_ ?_ ?_ ?_
    · exact ⟨G4, _, _, rfl, Kp.refl, hG33, hG4, cv33, cv4⟩
    · rintro i σ H' _ ⟨_, _, _, _, _, hg, _⟩
      exact SqL.of hg
    · rintro i x σ H' hx ⟨Ri, o10, o11, rfl, kk, hGi, hRi, cva, cvb⟩
      obtain ⟨q, t', dd', hq, ex, ht', _⟩ := cv33.get hx
      have hil := (List.getElem?_eq_some_iff.mp hx).1
      have hx4 : xs4[i]? = some (xs4[i]'(by omega)) := List.getElem?_eq_getElem (by omega)
      obtain ⟨x4, e4⟩ : ∃ x4, x4 = xs4[i]'(by omega) := ⟨_, rfl⟩
      rw [← e4] at hx4
      rw [drop_at hx, drop_at hq] at cva
      rw [drop_at hx4, drop_at hq] at cvb
      rw [drop_at hx4] at hRi
      have okq1 := okq q (List.mem_of_getElem? hq)
      obtain ⟨⟨t, dd, ex2, ht, hdd⟩, cva2⟩ := cva
      obtain ⟨⟨t4, dd4, ex4, ht4, hdd4⟩, cvb2⟩ := cvb
      subst ex4
      rw [ex] at ex2
      cases ex2
      subst ex
      walk_at "ns"
      refine a_new fun T2 H40 fT2 k40 hT2 => ?_
      walk_at "ns"
      refine a_new fun L2 H41 fL2 k41 hL2 => ?_
      walk_at "ns"
      refine ⟨L2, [.ref T2], [q], rfl, hL2, ⟨⟨T2, dd, rfl, k41.fix _ _ hT2 trivial, (Kp.trans k40 k41).at_ _ _ hdd not_nil⟩, trivial⟩, by simp, fun z hz => by rw [List.mem_singleton.mp hz]; exact okq1, fun H42 k42 => ?_⟩
      have k4042 := Kp.trans k40 (Kp.trans k41 k42)
      have hRi42 := k4042.at_ _ _ hRi not_nil
      walk_at "ns"
      refine a_new fun L3 H43 fL3 k43 hL3 => ?_
      rw [cutV_one] at hL3
      walk_at "ns"
      have k4043 := Kp.trans k4042 k43
      refine ⟨L3, [.ref t4], [q], rfl, hL3, ⟨⟨t4, dd4, rfl, k4043.fix _ _ ht4 trivial, k4043.at_ _ _ hdd4 not_nil⟩, trivial⟩, by simp, fun z hz => by rw [List.mem_singleton.mp hz]; exact okq1, fun H44 k44 => ?_⟩
      walk_at "ns"
      rw [decide_eq_true rfl]
      walk_at "ns"
      have k4044 := Kp.trans k4043 k44
      have hdd44 := k4044.at_ _ _ hdd not_nil
      refine ⟨.inr (.inr (.inl ⟨rfl, .inl ⟨_, hdd44⟩⟩)), a_clrD hdd44 fun H45 k45 => ?_⟩
      have hdi : ds2[i]? = some dd := by
        refine DsOf.get (v := .int q.1) ?_ dof33 hx
        rw [ht']
        have := kk.fix _ _ ht' trivial
        rw [ht] at this
        exact this.symm
      have hdm := List.mem_of_getElem? hdi
      have hRi44 := k4044.at_ _ _ hRi not_nil
      have hGi44 := k4044.at_ _ _ hGi not_nil
      have hRi45 := k45.at_ _ _ hRi44 (not_one fun z => by rw [z, hdd44] at hRi44; cases hRi44)
      have hGi45 := k45.at_ _ _ hGi44 (not_one fun z => by rw [z, hdd44] at hGi44; cases hGi44)
      walk_at "ns"
      refine a_new fun L4 H46 fL4 k46 hL4 => ?_
      rw [cutV_tail] at hL4
      walk_at "ns"
      have kall : Kp ds2 H' H46 := Kp.trans k4044.wide (Kp.trans (k45.mono fun b hb => by rw [List.mem_singleton.mp hb]; exact hdm) k46.wide)
      have k0 := Kp.trans kk k4044.wide
      refine ⟨L4, _, _, rfl, Kp.trans kk kall, k46.at_ _ _ hGi45 not_nil, hL4, ?_, ?_⟩
      · refine (ColVs.kds k45 (cva2.kp k4044) ((dof33.drop (i + 1)).kp k0) fun x hx => not_one (nd_drop dnd2 hdi x hx)).kp k46
      · refine (ColVs.kds k45 (cvb2.kp k4044) ((dof4.drop (i + 1)).kp k0) fun x hx => not_one (Ne.symm (n24 dd hdm x (List.mem_of_mem_drop hx)))).kp k46
    rintro σ H34 ⟨Ri, o10, o11, rfl, kk, hG34, _, _, _⟩
    walk_at "ns"
    refine a_clrL hG34 fun H35 k35 => ?_
    walk_at "ns"
    have nin : ∀ {a : Addr} {u : HO}, H33 a = some u → (∀ kvs, u ≠ .dK kvs) → a ∉ ds2 := fun h n z => by
      obtain ⟨kvs, e⟩ := dk33 _ z
      rw [h] at e
      exact n kvs (Option.some.inj e)
    have hd12 := k1012.at_ _ _ hd10 not_nil
    have hM12 := k1012.at_ _ _ hM10 not_nil
    have hd34 := kk.at_ _ _ hd33 fun z => fr_ne hd12 (dfr2 _ z).1 rfl
    have hM34 := kk.at_ _ _ hM33 fun z => fr_ne hM12 (dfr2 _ z).1 rfl
    have hR34 := kk.at_ _ _ hR33 fun z => nds _ z rfl
    have ra34 : RwAt K H34 n c' rw' := ra33.kp kk fun q hq => by
      obtain ⟨vs, e, _⟩ := ra33.ld q hq
      exact nin e fun kvs z => by cases z
    have me34 : ∀ e ∈ es', MemL K T.c_Memory H34 e.2.1 e.2.2 (c' e.1) := fun e he => by
      obtain ⟨dx, h1, vs, h2, h3⟩ := id (me33 e he)
      exact (me33 e he).kp kk (nin h1 fun kvs z => by cases z) (nin h2 fun kvs z => by cases z)
    have hd35 := k35.at_ _ _ hd34 (not_one fun z => by rw [z, hG34] at hd34; cases hd34)
    have hM35 := k35.at_ _ _ hM34 (not_one fun z => by rw [z, hG34] at hM34; cases hM34)
    have hR35 := k35.at_ _ _ hR34 (not_one fun z => by rw [z, hG34] at hR34; cases hR34)
    have nG2 : ∀ {a : Addr}, Tr H12 a → a ∉ [G2] := fun t => not_one (fr_tr t fG2)
    have hG25 := (Kp.trans k23 (Kp.trans k24 k25)).at_ _ _ hG22 not_nil
    have nGL1 : L1 ≠ G2 := Ne.symm (fr_ne hG25 fL1)
    have ra35 : RwAt K H35 n c' rw' := ra34.kp k35 fun q hq => by
      rw [erw] at hq
      obtain ⟨q1, hq1, rfl⟩ := List.mem_map.mp hq
      by_cases h : q1.1 = w0'
      · rw [if_pos h]
        exact not_one nGL1
      · rw [if_neg h]
        exact nG2 (tr_kp k1012 (tr_ld (ra10.ld q1 hq1)))
    have me35 : ∀ e ∈ es', MemL K T.c_Memory H35 e.2.1 e.2.2 (c' e.1) := fun e he => by
      obtain ⟨dx, h1, _⟩ := id (me34 e he)
      refine (me34 e he).kp k35 (not_one fun z => by rw [z, hG34] at h1; cases h1) ?_
      rw [ees'] at he
      obtain ⟨e1, he1, rfl⟩ := List.mem_map.mp he
      by_cases h : e1.1 = w0'
      · rw [if_pos h]
        exact not_one (ml'.ne (off22 G2 (tr_of hG21)))
      · rw [if_neg h]
        obtain ⟨_, u, hu⟩ := (me10 e1 he1).known
        exact nG2 (tr_kp k1012 (tr_of hu))
    have c'w : ∀ u ∈ ws, ((c' u).length : Int) = n ∧ (rle (c' u)).length ≤ 24 ∧ ∀ v ∈ c' u, okI v := fun u hu => by
      by_cases h : u = w0'
      · rw [h, c'0, rle1, List.length_replicate]
        refine ⟨by omega, by omega, fun x hx => ?_⟩
        rw [(List.mem_replicate.mp hx).2]
        exact okI_of (by omega) (by omega)
      · rw [c'n u h]
        obtain ⟨a1, a2, a3, _⟩ := cw u hu
        exact ⟨a1, by omega, fun v hv => okI_M (a3 v hv)⟩
    have les' : es'.length ≤ 7 := by
      have := congrArg List.length ek1
      rw [List.length_map] at this
      omega
    have lrw' : rw'.length ≤ 7 := by
      have := congrArg List.length kw'
      rw [List.length_map] at this
      omega
    refine ⟨d, es', c', n, rfl, hd35, me35, by rw [ek1]; exact ndw, les', n1, fun e he => ?_, fun G5 E5 xs5 H36 ea5 cv5 dso5 fG5 k36 hG5 lE5 => ?_⟩
    · have := c'w e.1 (by rw [← ek1]; exact List.mem_map.mpr ⟨e, he, rfl⟩)
      exact ⟨this.1, this.2.1⟩
    rw [ek1] at ea5 cv5
    have okq5 := cols_ok ea5 (fun u hu => (c'w u hu).1) n2 ndw w7 fun u hu => ⟨okI_of (by have := bw u hu; omega) (by have := bw u hu; omega), (c'w u hu).2.2⟩
    walk_at "ns"
    refine ⟨G5, xs5, colsOf c' ws E5, rfl, hG5, cv5, by rw [colsOf_len]; exact lE5, okq5, fun H37 k37 => ?_⟩
    walk_at "ns"
    have k3537 := Kp.trans k36 k37
    have ra37 := ra35.kp0 k3537
    have hR37 := k3537.at_ _ _ hR35 not_nil
    refine ⟨M, R, _, rw', n, c', rfl, k3537.at_ _ _ hM35 not_nil, rfl, nMR, hR37, fun q hq => ⟨ra37.ld q hq, ra37.ne hR37 q hq⟩, by rw [kw']; exact ndw, lrw', n1, fun q hq => ?_, fun G6 E6 xs6 H38 ea6 cv6 dso6 fG6 k38 hG6 lE6 => ?_⟩
    · have := c'w q.1 (by rw [← kw']; exact List.mem_map.mpr ⟨q, hq, rfl⟩)
      exact ⟨this.1, this.2.1⟩
    rw [kw'] at ea6 cv6
    obtain rfl := ea6.uniq ea5
    walk_at "ns"
    refine ⟨G6, xs6, _, rfl, hG6, cv6, by rw [colsOf_len]; exact lE6, okq5, fun H39 k39 => ?_⟩
    walk_at "ns"
    rw [decide_eq_true rfl]
    refine k H39 ?_
    exact fx_kp k39 (fx_kp k38 (fx_kp k3537 (fx_kp k35 (fx_kp kk (fx_kp k2833 (fx_kp k27 (fx_kp k2226 (fx_kp k22 (fx_kp k1721 f0_17)))))))))

theorem only_fx {K : PySem.W.Frag} {H H1 : Hp} {a : Addr} {xs : List V} (o : Only H) (k : Fx H H1) (h : SqL K H a xs) : SqL K H1 a xs := by
  rcases h with (h | ⟨ob, h⟩) | h
  · rcases o a with y | ⟨ob, ys, y⟩ <;> rw [h] at y <;> cases y
  · exact .inl (.inr ⟨ob, k.fx _ _ h trivial⟩)
  · exact .inr h
theorem fx_trans {H0 H1 H2 : Hp} (a : Fx H0 H1) (b : Fx H1 H2) : Fx H0 H2 := ⟨fun x u h z => b.fx x u (a.fx x u h z) z⟩
def sp_law (K : PySem.W.Frag) : Sp := fun vs H Q _ => ∃ (a : Addr) (ns : List Int), vs = [.ref a] ∧ Only H ∧ SqL K H a (ns.map V.int) ∧ ns.length ≤ 63 ∧ ∀ H', Q (.bl true) H'
theorem sc_law : FnScope ["_law_script", "_law_k"] ["_law_script"] (defScope s_law) :=
  ⟨rfl, rfl, rfl, by decide +kernel, rfl, by decide +kernel, by decide +kernel⟩
theorem ok_law {P : Program} {w : World} {K : PySem.W.Frag} {mg : Str → Option Value} {base : Heap} (T : Txt K mg) :
    FnG P w K mg base 9 T.a_law T.d_law ["_law_script"] (sp_law K) := by
  refine okD T.F_law sc_law (fun vs H Q E h => ?_) (fun cdv A outer s H vs Q E hr h => ?_)
  · first
      | (obtain ⟨_, rfl, _⟩ := h; rfl)
      | (obtain ⟨_, _, rfl, _⟩ := h; rfl)
      | (obtain ⟨_, _, _, rfl, _⟩ := h; rfl)
      | (obtain ⟨_, _, _, _, rfl, _⟩ := h; rfl)
      | (obtain ⟨_, _, _, _, _, rfl, _⟩ := h; rfl)
      | (obtain ⟨_, _, _, _, _, _, rfl, _⟩ := h; rfl)
      | (obtain ⟨_, _, _, _, _, _, _, rfl, _⟩ := h; rfl)
      | (obtain ⟨_, _, _, _, _, _, _, _, rfl, _⟩ := h; rfl)
      | (obtain ⟨_, _, _, _, _, _, _, _, _, rfl, _⟩ := h; rfl)
      | (obtain ⟨_, _, _, _, _, _, _, _, _, _, rfl, _⟩ := h; rfl)
      | (obtain ⟨_, _, _, _, _, _, _, _, _, _, _, rfl, _⟩ := h; rfl)
      | (obtain ⟨_, _, _, _, _, _, _, _, _, _, _, _, rfl, _⟩ := h; rfl)
      | (obtain ⟨_, _, _, _, _, _, _, _, _, _, _, _, _, rfl, _⟩ := h; rfl)
      | (obtain ⟨_, _, _, _, _, _, _, _, _, _, _, _, _, _, rfl, _⟩ := h; rfl)
      | (obtain ⟨_, _, _, _, _, _, _, _, _, _, _, _, _, _, _, rfl, _⟩ := h; rfl)
      | (obtain ⟨_, _, _, _, _, _, _, _, _, _, _, _, _, _, _, _, rfl, _⟩ := h; rfl)
      | (obtain ⟨_, _, _, _, _, _, _, _, _, _, _, _, _, _, _, _, _, rfl, _⟩ := h; rfl)
      | (obtain ⟨_, _, _, _, _, _, _, _, _, _, _, _, _, _, _, _, _, _, rfl, _⟩ := h; rfl)
      | (obtain ⟨_, _, _, _, _, _, _, _, _, _, _, _, _, _, _, _, _, _, _, rfl, _⟩ := h; rfl)
  · obtain ⟨a, ns, rfl, on, hs, hl, k⟩ := h
    refine ⟨_, (pss_cons (ps_for (passes_of rfl) rfl (pi_range1 (by rfl) T.n_range (pa_cons (pe_callB (c_max2 rfl) (by rfl) T.n_max (by decide +kernel) (pa_cons pe_int (pa_cons (pe_callB (c_min2 rfl) (by rfl) T.n_min (by decide +kernel) (pa_cons pe_int (pa_cons (pe_callB (k_len (K := K) rfl) (by rfl) T.n_len (by decide +kernel) (pa_cons (pv 0) pa_nil)) pa_nil))) pa_nil))) pa_nil)) (pg_name (i := 1) sc_law.nd rfl (Or.inl rfl))
      (pss_one (ps_if (pt_not (pt_val (d1 (ok_law_right T) (hr.mono (by decide)) (by rfl) T.m_law_right T.F_law_right.kp T.b_law_right passL (pa_cons (d1 (ok_law_pot T) (hr.mono (by decide)) (by rfl) T.m_law_pot T.F_law_pot.kp T.b_law_pot passL (pa_cons (pv 0) (pa_cons (pv 1) pa_nil))) pa_nil)))) (pss_one (ps_ret pe_bl)) pss_nil)))
      (pss_one (ps_ret pe_bl))), ?_⟩
    dsimp only [cxOf, st_1, st_2, st_3, st_4, st_5, st_6, List.length_cons, List.length_nil, List.replicate_succ, List.replicate_zero, Nat.reduceAdd, Nat.reduceSub]
    walk_at "ns"
    rw [List.length_map]
    refine i_turns (by omega) (by omega) (fun i σ H' => ∃ o1 : Option V, σ = [some (.ref a), o1] ∧ Fx H H') ?_ ?_ ?_
    · exact ⟨_, rfl, fx_refl⟩
    · rintro i σ H1 hi ⟨o1, rfl, f1⟩
      walk_at "ns"
      refine ⟨a, ns, i, rfl, only_fx on f1 hs, by omega, fun p H2 fp k2 hp2 => ?_⟩
      walk_at "ns"
      refine ⟨p, rfl, hp2, fun H3 f3 => ?_⟩
      walk_at "ns"
      exact ⟨_, rfl, fx_trans (fx_kp k2 f1) f3⟩
    · rintro σ H1 ⟨o1, rfl, f1⟩
      walk_at "ns"
      exact k _
theorem law_end {K : PySem.W.Frag} {H : Hp} {a : Addr} {ns : List Int} (hl : ns.length ≤ 63)
    (_ : ∀ z ∈ ns, Builtin.Int.intBits z ≤ 1048576) (ho : Only H) (hs : SqL K H a (ns.map V.int)) :
    sp_law K [.ref a] H (fun v _ => v = .bl true) fun _ _ _ => False :=
  ⟨a, ns, rfl, ho, hs, hl, fun _ => rfl⟩

theorem all_mk {l : PySem.W.OpenLaw} {w : World} {K : PySem.W.Frag} {h : Heap}
    {mg : Str → Option Value} {fa : Addr} (X : K.In h) (N : h.Ns mainGlobals mg)
    (hfa : mg "law" = some (.ref fa))
    {C0 : Addr} (ac0 : PySem.W.nsIn K mainGlobals "Memory" = some (some (.ref C0)))
    {f0 : Addr} {od0 an0 : Option Addr} {sl0 : Array (Option Value)} {oc0 kV0 dc0 pm0 cd0 ct0 : Value}
    {f1 : Addr} {od1 an1 : Option Addr} {sl1 : Array (Option Value)} {oc1 kV1 dc1 pm1 cd1 ct1 : Value}
    {f2 : Addr} {od2 an2 : Option Addr} {sl2 : Array (Option Value)} {oc2 kV2 dc2 pm2 cd2 ct2 : Value}
    {f3 : Addr} {od3 an3 : Option Addr} {sl3 : Array (Option Value)} {oc3 kV3 dc3 pm3 cd3 ct3 : Value}
    {f4 : Addr} {od4 an4 : Option Addr} {sl4 : Array (Option Value)} {oc4 kV4 dc4 pm4 cd4 ct4 : Value}
    {f5 : Addr} {od5 an5 : Option Addr} {sl5 : Array (Option Value)} {oc5 kV5 dc5 pm5 cd5 ct5 : Value}
    {f6 : Addr} {od6 an6 : Option Addr} {sl6 : Array (Option Value)} {oc6 kV6 dc6 pm6 cd6 ct6 : Value}
    {f7 : Addr} {od7 an7 : Option Addr} {sl7 : Array (Option Value)} {oc7 kV7 dc7 pm7 cd7 ct7 : Value}
    {f8 : Addr} {od8 an8 : Option Addr} {sl8 : Array (Option Value)} {oc8 kV8 dc8 pm8 cd8 ct8 : Value}
    {f9 : Addr} {od9 an9 : Option Addr} {sl9 : Array (Option Value)} {oc9 kV9 dc9 pm9 cd9 ct9 : Value}
    {f10 : Addr} {od10 an10 : Option Addr} {sl10 : Array (Option Value)} {oc10 kV10 dc10 pm10 cd10 ct10 : Value}
    {f11 : Addr} {od11 an11 : Option Addr} {sl11 : Array (Option Value)} {oc11 kV11 dc11 pm11 cd11 ct11 : Value}
    {f12 : Addr} {od12 an12 : Option Addr} {sl12 : Array (Option Value)} {oc12 kV12 dc12 pm12 cd12 ct12 : Value}
    {f13 : Addr} {od13 an13 : Option Addr} {sl13 : Array (Option Value)} {oc13 kV13 dc13 pm13 cd13 ct13 : Value}
    {f14 : Addr} {od14 an14 : Option Addr} {sl14 : Array (Option Value)} {oc14 kV14 dc14 pm14 cd14 ct14 : Value}
    {f15 : Addr} {od15 an15 : Option Addr} {sl15 : Array (Option Value)} {oc15 dc15 pm15 cd15 ct15 : Value}
    {f16 : Addr} {od16 an16 : Option Addr} {sl16 : Array (Option Value)} {oc16 kV16 dc16 pm16 cd16 ct16 : Value}
    {f17 : Addr} {od17 an17 : Option Addr} {sl17 : Array (Option Value)} {oc17 kV17 dc17 pm17 cd17 ct17 : Value}
    {f18 : Addr} {od18 an18 : Option Addr} {sl18 : Array (Option Value)} {oc18 kV18 dc18 pm18 cd18 ct18 : Value}
    {f19 : Addr} {od19 an19 : Option Addr} {sl19 : Array (Option Value)} {oc19 kV19 dc19 pm19 cd19 ct19 : Value}
    {f20 : Addr} {od20 an20 : Option Addr} {sl20 : Array (Option Value)} {oc20 kV20 dc20 pm20 cd20 ct20 : Value}
    {f21 : Addr} {od21 an21 : Option Addr} {sl21 : Array (Option Value)} {oc21 kV21 dc21 pm21 cd21 ct21 : Value}
    {f22 : Addr} {od22 an22 : Option Addr} {sl22 : Array (Option Value)} {oc22 dc22 pm22 cd22 ct22 : Value}
    {f23 : Addr} {od23 an23 : Option Addr} {sl23 : Array (Option Value)} {oc23 kV23 dc23 pm23 cd23 ct23 : Value}
    {f24 : Addr} {od24 an24 : Option Addr} {sl24 : Array (Option Value)} {oc24 kV24 dc24 pm24 cd24 ct24 : Value}
    {f25 : Addr} {od25 an25 : Option Addr} {sl25 : Array (Option Value)} {oc25 kV25 dc25 pm25 cd25 ct25 : Value}
    {f26 : Addr} {od26 an26 : Option Addr} {sl26 : Array (Option Value)} {oc26 kV26 dc26 pm26 cd26 ct26 : Value}
    {f27 : Addr} {od27 an27 : Option Addr} {sl27 : Array (Option Value)} {oc27 kV27 dc27 pm27 cd27 ct27 : Value}
    {f28 : Addr} {od28 an28 : Option Addr} {sl28 : Array (Option Value)} {oc28 kV28 dc28 pm28 cd28 ct28 : Value}
    {f29 : Addr} {od29 an29 : Option Addr} {sl29 : Array (Option Value)} {oc29 kV29 dc29 pm29 cd29 ct29 : Value}
    {f30 : Addr} {od30 an30 : Option Addr} {sl30 : Array (Option Value)} {oc30 kV30 dc30 pm30 cd30 ct30 : Value}
    {f31 : Addr} {od31 an31 : Option Addr} {sl31 : Array (Option Value)} {oc31 kV31 dc31 pm31 cd31 ct31 : Value}
    {f32 : Addr} {od32 an32 : Option Addr} {sl32 : Array (Option Value)} {oc32 kV32 dc32 pm32 cd32 ct32 : Value}
    {f33 : Addr} {od33 an33 : Option Addr} {sl33 : Array (Option Value)} {oc33 kV33 dc33 pm33 cd33 ct33 : Value}
    {f34 : Addr} {od34 an34 : Option Addr} {sl34 : Array (Option Value)} {oc34 kV34 dc34 pm34 cd34 ct34 : Value}
    {f35 : Addr} {od35 an35 : Option Addr} {sl35 : Array (Option Value)} {oc35 kV35 dc35 pm35 cd35 ct35 : Value}
    {f36 : Addr} {od36 an36 : Option Addr} {sl36 : Array (Option Value)} {oc36 kV36 dc36 pm36 cd36 ct36 : Value}
    {f37 : Addr} {od37 an37 : Option Addr} {sl37 : Array (Option Value)} {oc37 kV37 dc37 pm37 cd37 ct37 : Value}
    {f38 : Addr} {od38 an38 : Option Addr} {sl38 : Array (Option Value)} {oc38 kV38 dc38 pm38 cd38 ct38 : Value}
    {f39 : Addr} {od39 an39 : Option Addr} {sl39 : Array (Option Value)} {oc39 kV39 dc39 pm39 cd39 ct39 : Value}
    {f40 : Addr} {od40 an40 : Option Addr} {sl40 : Array (Option Value)} {oc40 kV40 dc40 pm40 cd40 ct40 : Value}
    (a0 : PySem.W.nsIn K mainGlobals "_wall" = some (some (.ref f0)))
    (l0 : K.lookup f0 = some ⟨oc0, od0, .func (PySem.W.fnOf "_wall" "_wall" (defArgs s_wall) (defBody s_wall)
      (defScope s_wall) .none kV0 dc0 pm0 an0 cd0 ct0), sl0⟩)
    (c0 : PySem.W.codeIn K cd0 "_wall" = true) (k0 : PySem.W.keepIn K (.ref f0) = true)
    (a1 : PySem.W.nsIn K mainGlobals "ends_of" = some (some (.ref f1)))
    (l1 : K.lookup f1 = some ⟨oc1, od1, .func (PySem.W.fnOf "ends_of" "ends_of" (defArgs s_ends_of) (defBody s_ends_of)
      (defScope s_ends_of) .none kV1 dc1 pm1 an1 cd1 ct1), sl1⟩)
    (c1 : PySem.W.codeIn K cd1 "ends_of" = true) (k1 : PySem.W.keepIn K (.ref f1) = true)
    (a2 : PySem.W.nsIn K mainGlobals "spread" = some (some (.ref f2)))
    (l2 : K.lookup f2 = some ⟨oc2, od2, .func (PySem.W.fnOf "spread" "spread" (defArgs s_spread) (defBody s_spread)
      (defScope s_spread) .none kV2 dc2 pm2 an2 cd2 ct2), sl2⟩)
    (c2 : PySem.W.codeIn K cd2 "spread" = true) (k2 : PySem.W.keepIn K (.ref f2) = true)
    (a3 : PySem.W.nsIn K mainGlobals "columns" = some (some (.ref f3)))
    (l3 : K.lookup f3 = some ⟨oc3, od3, .func (PySem.W.fnOf "columns" "columns" (defArgs s_columns) (defBody s_columns)
      (defScope s_columns) .none kV3 dc3 pm3 an3 cd3 ct3), sl3⟩)
    (c3 : PySem.W.codeIn K cd3 "columns" = true) (k3 : PySem.W.keepIn K (.ref f3) = true)
    (a4 : PySem.W.nsIn K mainGlobals "is_number" = some (some (.ref f4)))
    (l4 : K.lookup f4 = some ⟨oc4, od4, .func (PySem.W.fnOf "is_number" "is_number" (defArgs s_is_number) (defBody s_is_number)
      (defScope s_is_number) .none kV4 dc4 pm4 an4 cd4 ct4), sl4⟩)
    (c4 : PySem.W.codeIn K cd4 "is_number" = true) (k4 : PySem.W.keepIn K (.ref f4) = true)
    (a5 : PySem.W.nsIn K mainGlobals "is_whole" = some (some (.ref f5)))
    (l5 : K.lookup f5 = some ⟨oc5, od5, .func (PySem.W.fnOf "is_whole" "is_whole" (defArgs s_is_whole) (defBody s_is_whole)
      (defScope s_is_whole) .none kV5 dc5 pm5 an5 cd5 ct5), sl5⟩)
    (c5 : PySem.W.codeIn K cd5 "is_whole" = true) (k5 : PySem.W.keepIn K (.ref f5) = true)
    (a6 : PySem.W.nsIn K mainGlobals "is_size" = some (some (.ref f6)))
    (l6 : K.lookup f6 = some ⟨oc6, od6, .func (PySem.W.fnOf "is_size" "is_size" (defArgs s_is_size) (defBody s_is_size)
      (defScope s_is_size) .none kV6 dc6 pm6 an6 cd6 ct6), sl6⟩)
    (c6 : PySem.W.codeIn K cd6 "is_size" = true) (k6 : PySem.W.keepIn K (.ref f6) = true)
    (a7 : PySem.W.nsIn K mainGlobals "is_run" = some (some (.ref f7)))
    (l7 : K.lookup f7 = some ⟨oc7, od7, .func (PySem.W.fnOf "is_run" "is_run" (defArgs s_is_run) (defBody s_is_run)
      (defScope s_is_run) .none kV7 dc7 pm7 an7 cd7 ct7), sl7⟩)
    (c7 : PySem.W.codeIn K cd7 "is_run" = true) (k7 : PySem.W.keepIn K (.ref f7) = true)
    (a8 : PySem.W.nsIn K mainGlobals "are_runs" = some (some (.ref f8)))
    (l8 : K.lookup f8 = some ⟨oc8, od8, .func (PySem.W.fnOf "are_runs" "are_runs" (defArgs s_are_runs) (defBody s_are_runs)
      (defScope s_are_runs) .none kV8 dc8 pm8 an8 cd8 ct8), sl8⟩)
    (c8 : PySem.W.codeIn K cd8 "are_runs" = true) (k8 : PySem.W.keepIn K (.ref f8) = true)
    (a9 : PySem.W.nsIn K mainGlobals "joined" = some (some (.ref f9)))
    (l9 : K.lookup f9 = some ⟨oc9, od9, .func (PySem.W.fnOf "joined" "joined" (defArgs s_joined) (defBody s_joined)
      (defScope s_joined) .none kV9 dc9 pm9 an9 cd9 ct9), sl9⟩)
    (c9 : PySem.W.codeIn K cd9 "joined" = true) (k9 : PySem.W.keepIn K (.ref f9) = true)
    (a10 : PySem.W.nsIn K mainGlobals "cut_out" = some (some (.ref f10)))
    (l10 : K.lookup f10 = some ⟨oc10, od10, .func (PySem.W.fnOf "cut_out" "cut_out" (defArgs s_cut_out) (defBody s_cut_out)
      (defScope s_cut_out) .none kV10 dc10 pm10 an10 cd10 ct10), sl10⟩)
    (c10 : PySem.W.codeIn K cd10 "cut_out" = true) (k10 : PySem.W.keepIn K (.ref f10) = true)
    (a11 : PySem.W.nsIn K mainGlobals "want_size" = some (some (.ref f11)))
    (l11 : K.lookup f11 = some ⟨oc11, od11, .func (PySem.W.fnOf "want_size" "want_size" (defArgs s_want_size) (defBody s_want_size)
      (defScope s_want_size) .none kV11 dc11 pm11 an11 cd11 ct11), sl11⟩)
    (c11 : PySem.W.codeIn K cd11 "want_size" = true) (k11 : PySem.W.keepIn K (.ref f11) = true)
    (a12 : PySem.W.nsIn K mainGlobals "want_number" = some (some (.ref f12)))
    (l12 : K.lookup f12 = some ⟨oc12, od12, .func (PySem.W.fnOf "want_number" "want_number" (defArgs s_want_number) (defBody s_want_number)
      (defScope s_want_number) .none kV12 dc12 pm12 an12 cd12 ct12), sl12⟩)
    (c12 : PySem.W.codeIn K cd12 "want_number" = true) (k12 : PySem.W.keepIn K (.ref f12) = true)
    (a13 : PySem.W.nsIn K mainGlobals "want_cell" = some (some (.ref f13)))
    (l13 : K.lookup f13 = some ⟨oc13, od13, .func (PySem.W.fnOf "want_cell" "want_cell" (defArgs s_want_cell) (defBody s_want_cell)
      (defScope s_want_cell) .none kV13 dc13 pm13 an13 cd13 ct13), sl13⟩)
    (c13 : PySem.W.codeIn K cd13 "want_cell" = true) (k13 : PySem.W.keepIn K (.ref f13) = true)
    (a14 : PySem.W.nsIn K mainGlobals "want_stretch" = some (some (.ref f14)))
    (l14 : K.lookup f14 = some ⟨oc14, od14, .func (PySem.W.fnOf "want_stretch" "want_stretch" (defArgs s_want_stretch) (defBody s_want_stretch)
      (defScope s_want_stretch) .none kV14 dc14 pm14 an14 cd14 ct14), sl14⟩)
    (c14 : PySem.W.codeIn K cd14 "want_stretch" = true) (k14 : PySem.W.keepIn K (.ref f14) = true)
    (a15 : PySem.W.findIn K (.ref C0) "__init__" = some (some (.ref f15))) (i15 : PySem.W.isFn K (.ref f15) = true)
    {D15 : Addr}
    (l15 : K.lookup f15 = some ⟨oc15, od15, .func (PySem.W.fnOf "__init__" "Memory.__init__" (defArgs s_Memory_init) (defBody s_Memory_init)
      (defScope s_Memory_init) .none (.ref D15) dc15 pm15 an15 cd15 ct15), sl15⟩)
    (c15 : PySem.W.codeIn K cd15 "Memory.__init__" = true) (k15 : PySem.W.keepIn K (.ref f15) = true)
    {tq15_0 : Tok} (q15_0 : PySem.W.nsIn K D15 "number" = some (some (.int 0 tq15_0)))
    (a16 : PySem.W.findIn K (.ref C0) "size" = some (some (.ref f16))) (i16 : PySem.W.isFn K (.ref f16) = true)
    (l16 : K.lookup f16 = some ⟨oc16, od16, .func (PySem.W.fnOf "size" "Memory.size" (defArgs s_Memory_size) (defBody s_Memory_size)
      (defScope s_Memory_size) .none kV16 dc16 pm16 an16 cd16 ct16), sl16⟩)
    (c16 : PySem.W.codeIn K cd16 "Memory.size" = true) (k16 : PySem.W.keepIn K (.ref f16) = true)
    (a17 : PySem.W.findIn K (.ref C0) "at" = some (some (.ref f17))) (i17 : PySem.W.isFn K (.ref f17) = true)
    (l17 : K.lookup f17 = some ⟨oc17, od17, .func (PySem.W.fnOf "at" "Memory.at" (defArgs s_Memory_at) (defBody s_Memory_at)
      (defScope s_Memory_at) .none kV17 dc17 pm17 an17 cd17 ct17), sl17⟩)
    (c17 : PySem.W.codeIn K cd17 "Memory.at" = true) (k17 : PySem.W.keepIn K (.ref f17) = true)
    (a18 : PySem.W.findIn K (.ref C0) "runs" = some (some (.ref f18))) (i18 : PySem.W.isFn K (.ref f18) = true)
    (l18 : K.lookup f18 = some ⟨oc18, od18, .func (PySem.W.fnOf "runs" "Memory.runs" (defArgs s_Memory_runs) (defBody s_Memory_runs)
      (defScope s_Memory_runs) .none kV18 dc18 pm18 an18 cd18 ct18), sl18⟩)
    (c18 : PySem.W.codeIn K cd18 "Memory.runs" = true) (k18 : PySem.W.keepIn K (.ref f18) = true)
    (a19 : PySem.W.findIn K (.ref C0) "lay" = some (some (.ref f19))) (i19 : PySem.W.isFn K (.ref f19) = true)
    (l19 : K.lookup f19 = some ⟨oc19, od19, .func (PySem.W.fnOf "lay" "Memory.lay" (defArgs s_Memory_lay) (defBody s_Memory_lay)
      (defScope s_Memory_lay) .none kV19 dc19 pm19 an19 cd19 ct19), sl19⟩)
    (c19 : PySem.W.codeIn K cd19 "Memory.lay" = true) (k19 : PySem.W.keepIn K (.ref f19) = true)
    (a20 : PySem.W.findIn K (.ref C0) "put" = some (some (.ref f20))) (i20 : PySem.W.isFn K (.ref f20) = true)
    (l20 : K.lookup f20 = some ⟨oc20, od20, .func (PySem.W.fnOf "put" "Memory.put" (defArgs s_Memory_put) (defBody s_Memory_put)
      (defScope s_Memory_put) .none kV20 dc20 pm20 an20 cd20 ct20), sl20⟩)
    (c20 : PySem.W.codeIn K cd20 "Memory.put" = true) (k20 : PySem.W.keepIn K (.ref f20) = true)
    (a21 : PySem.W.findIn K (.ref C0) "fill" = some (some (.ref f21))) (i21 : PySem.W.isFn K (.ref f21) = true)
    (l21 : K.lookup f21 = some ⟨oc21, od21, .func (PySem.W.fnOf "fill" "Memory.fill" (defArgs s_Memory_fill) (defBody s_Memory_fill)
      (defScope s_Memory_fill) .none kV21 dc21 pm21 an21 cd21 ct21), sl21⟩)
    (c21 : PySem.W.codeIn K cd21 "Memory.fill" = true) (k21 : PySem.W.keepIn K (.ref f21) = true)
    (a22 : PySem.W.findIn K (.ref C0) "bring" = some (some (.ref f22))) (i22 : PySem.W.isFn K (.ref f22) = true)
    {D22 : Addr}
    (l22 : K.lookup f22 = some ⟨oc22, od22, .func (PySem.W.fnOf "bring" "Memory.bring" (defArgs s_Memory_bring) (defBody s_Memory_bring)
      (defScope s_Memory_bring) .none (.ref D22) dc22 pm22 an22 cd22 ct22), sl22⟩)
    (c22 : PySem.W.codeIn K cd22 "Memory.bring" = true) (k22 : PySem.W.keepIn K (.ref f22) = true)
    (q22_0 : PySem.W.nsIn K D22 "source" = some (some .none))
    (a23 : PySem.W.findIn K (.ref C0) "copied" = some (some (.ref f23))) (i23 : PySem.W.isFn K (.ref f23) = true)
    (l23 : K.lookup f23 = some ⟨oc23, od23, .func (PySem.W.fnOf "copied" "Memory.copied" (defArgs s_Memory_copied) (defBody s_Memory_copied)
      (defScope s_Memory_copied) .none kV23 dc23 pm23 an23 cd23 ct23), sl23⟩)
    (c23 : PySem.W.codeIn K cd23 "Memory.copied" = true) (k23 : PySem.W.keepIn K (.ref f23) = true)
    (a24 : PySem.W.findIn K (.ref C0) "__eq__" = some (some (.ref f24))) (i24 : PySem.W.isFn K (.ref f24) = true)
    (l24 : K.lookup f24 = some ⟨oc24, od24, .func (PySem.W.fnOf "__eq__" "Memory.__eq__" (defArgs s_Memory_eq) (defBody s_Memory_eq)
      (defScope s_Memory_eq) .none kV24 dc24 pm24 an24 cd24 ct24), sl24⟩)
    (c24 : PySem.W.codeIn K cd24 "Memory.__eq__" = true) (k24 : PySem.W.keepIn K (.ref f24) = true)
    (a25 : PySem.W.findIn K (.ref C0) "__len__" = some (some (.ref f25))) (i25 : PySem.W.isFn K (.ref f25) = true)
    (l25 : K.lookup f25 = some ⟨oc25, od25, .func (PySem.W.fnOf "__len__" "Memory.__len__" (defArgs s_Memory_len) (defBody s_Memory_len)
      (defScope s_Memory_len) .none kV25 dc25 pm25 an25 cd25 ct25), sl25⟩)
    (c25 : PySem.W.codeIn K cd25 "Memory.__len__" = true) (k25 : PySem.W.keepIn K (.ref f25) = true)
    (a26 : PySem.W.findIn K (.ref C0) "__repr__" = some (some (.ref f26))) (i26 : PySem.W.isFn K (.ref f26) = true)
    (l26 : K.lookup f26 = some ⟨oc26, od26, .func (PySem.W.fnOf "__repr__" "Memory.__repr__" (defArgs s_Memory_repr) (defBody s_Memory_repr)
      (defScope s_Memory_repr) .none kV26 dc26 pm26 an26 cd26 ct26), sl26⟩)
    (c26 : PySem.W.codeIn K cd26 "Memory.__repr__" = true) (k26 : PySem.W.keepIn K (.ref f26) = true)
    (a27 : PySem.W.nsIn K mainGlobals "memory_of" = some (some (.ref f27)))
    (l27 : K.lookup f27 = some ⟨oc27, od27, .func (PySem.W.fnOf "memory_of" "memory_of" (defArgs s_memory_of) (defBody s_memory_of)
      (defScope s_memory_of) .none kV27 dc27 pm27 an27 cd27 ct27), sl27⟩)
    (c27 : PySem.W.codeIn K cd27 "memory_of" = true) (k27 : PySem.W.keepIn K (.ref f27) = true)
    (a28 : PySem.W.nsIn K mainGlobals "_law_pot" = some (some (.ref f28)))
    (l28 : K.lookup f28 = some ⟨oc28, od28, .func (PySem.W.fnOf "_law_pot" "_law_pot" (defArgs s_law_pot) (defBody s_law_pot)
      (defScope s_law_pot) .none kV28 dc28 pm28 an28 cd28 ct28), sl28⟩)
    (c28 : PySem.W.codeIn K cd28 "_law_pot" = true) (k28 : PySem.W.keepIn K (.ref f28) = true)
    (a29 : PySem.W.nsIn K mainGlobals "_law_take" = some (some (.ref f29)))
    (l29 : K.lookup f29 = some ⟨oc29, od29, .func (PySem.W.fnOf "_law_take" "_law_take" (defArgs s_law_take) (defBody s_law_take)
      (defScope s_law_take) .none kV29 dc29 pm29 an29 cd29 ct29), sl29⟩)
    (c29 : PySem.W.codeIn K cd29 "_law_take" = true) (k29 : PySem.W.keepIn K (.ref f29) = true)
    (a30 : PySem.W.nsIn K mainGlobals "_law_among" = some (some (.ref f30)))
    (l30 : K.lookup f30 = some ⟨oc30, od30, .func (PySem.W.fnOf "_law_among" "_law_among" (defArgs s_law_among) (defBody s_law_among)
      (defScope s_law_among) .none kV30 dc30 pm30 an30 cd30 ct30), sl30⟩)
    (c30 : PySem.W.codeIn K cd30 "_law_among" = true) (k30 : PySem.W.keepIn K (.ref f30) = true)
    (a31 : PySem.W.nsIn K mainGlobals "_law_wide" = some (some (.ref f31)))
    (l31 : K.lookup f31 = some ⟨oc31, od31, .func (PySem.W.fnOf "_law_wide" "_law_wide" (defArgs s_law_wide) (defBody s_law_wide)
      (defScope s_law_wide) .none kV31 dc31 pm31 an31 cd31 ct31), sl31⟩)
    (c31 : PySem.W.codeIn K cd31 "_law_wide" = true) (k31 : PySem.W.keepIn K (.ref f31) = true)
    (a32 : PySem.W.nsIn K mainGlobals "_law_number" = some (some (.ref f32)))
    (l32 : K.lookup f32 = some ⟨oc32, od32, .func (PySem.W.fnOf "_law_number" "_law_number" (defArgs s_law_number) (defBody s_law_number)
      (defScope s_law_number) .none kV32 dc32 pm32 an32 cd32 ct32), sl32⟩)
    (c32 : PySem.W.codeIn K cd32 "_law_number" = true) (k32 : PySem.W.keepIn K (.ref f32) = true)
    (a33 : PySem.W.nsIn K mainGlobals "_law_part" = some (some (.ref f33)))
    (l33 : K.lookup f33 = some ⟨oc33, od33, .func (PySem.W.fnOf "_law_part" "_law_part" (defArgs s_law_part) (defBody s_law_part)
      (defScope s_law_part) .none kV33 dc33 pm33 an33 cd33 ct33), sl33⟩)
    (c33 : PySem.W.codeIn K cd33 "_law_part" = true) (k33 : PySem.W.keepIn K (.ref f33) = true)
    (a34 : PySem.W.nsIn K mainGlobals "_law_joined" = some (some (.ref f34)))
    (l34 : K.lookup f34 = some ⟨oc34, od34, .func (PySem.W.fnOf "_law_joined" "_law_joined" (defArgs s_law_joined) (defBody s_law_joined)
      (defScope s_law_joined) .none kV34 dc34 pm34 an34 cd34 ct34), sl34⟩)
    (c34 : PySem.W.codeIn K cd34 "_law_joined" = true) (k34 : PySem.W.keepIn K (.ref f34) = true)
    (a35 : PySem.W.nsIn K mainGlobals "_law_row" = some (some (.ref f35)))
    (l35 : K.lookup f35 = some ⟨oc35, od35, .func (PySem.W.fnOf "_law_row" "_law_row" (defArgs s_law_row) (defBody s_law_row)
      (defScope s_law_row) .none kV35 dc35 pm35 an35 cd35 ct35), sl35⟩)
    (c35 : PySem.W.codeIn K cd35 "_law_row" = true) (k35 : PySem.W.keepIn K (.ref f35) = true)
    (a36 : PySem.W.nsIn K mainGlobals "_law_columns" = some (some (.ref f36)))
    (l36 : K.lookup f36 = some ⟨oc36, od36, .func (PySem.W.fnOf "_law_columns" "_law_columns" (defArgs s_law_columns) (defBody s_law_columns)
      (defScope s_law_columns) .none kV36 dc36 pm36 an36 cd36 ct36), sl36⟩)
    (c36 : PySem.W.codeIn K cd36 "_law_columns" = true) (k36 : PySem.W.keepIn K (.ref f36) = true)
    (a37 : PySem.W.nsIn K mainGlobals "_law_shown" = some (some (.ref f37)))
    (l37 : K.lookup f37 = some ⟨oc37, od37, .func (PySem.W.fnOf "_law_shown" "_law_shown" (defArgs s_law_shown) (defBody s_law_shown)
      (defScope s_law_shown) .none kV37 dc37 pm37 an37 cd37 ct37), sl37⟩)
    (c37 : PySem.W.codeIn K cd37 "_law_shown" = true) (k37 : PySem.W.keepIn K (.ref f37) = true)
    (a38 : PySem.W.nsIn K mainGlobals "_law_worlds" = some (some (.ref f38)))
    (l38 : K.lookup f38 = some ⟨oc38, od38, .func (PySem.W.fnOf "_law_worlds" "_law_worlds" (defArgs s_law_worlds) (defBody s_law_worlds)
      (defScope s_law_worlds) .none kV38 dc38 pm38 an38 cd38 ct38), sl38⟩)
    (c38 : PySem.W.codeIn K cd38 "_law_worlds" = true) (k38 : PySem.W.keepIn K (.ref f38) = true)
    (a39 : PySem.W.nsIn K mainGlobals "_law_right" = some (some (.ref f39)))
    (l39 : K.lookup f39 = some ⟨oc39, od39, .func (PySem.W.fnOf "_law_right" "_law_right" (defArgs s_law_right) (defBody s_law_right)
      (defScope s_law_right) .none kV39 dc39 pm39 an39 cd39 ct39), sl39⟩)
    (c39 : PySem.W.codeIn K cd39 "_law_right" = true) (k39 : PySem.W.keepIn K (.ref f39) = true)
    (a40 : PySem.W.nsIn K mainGlobals "law" = some (some (.ref f40)))
    (l40 : K.lookup f40 = some ⟨oc40, od40, .func (PySem.W.fnOf "law" "law" (defArgs s_law) (defBody s_law)
      (defScope s_law) .none kV40 dc40 pm40 an40 cd40 ct40), sl40⟩)
    (c40 : PySem.W.codeIn K cd40 "law" = true) (k40 : PySem.W.keepIn K (.ref f40) = true)
    (pg0 : PySem.W.plainGet K C0 Str.empty = true) (hd0 : PySem.W.hasDictIn K C0 = true)
    (po0 : PySem.W.plainOver K C0 = true) (sa0 : PySem.W.findIn K (.ref C0) "__setattr__" = some (some (.builtin "object.__setattr__")))
    (mk0 : PySem.W.makesIn K C0 = true) (kc0 : PySem.W.keepIn K (.ref C0) = true)
    (na0_pairs : PySem.W.findIn K (.ref C0) "pairs" = some none)
    (na0_wide : PySem.W.findIn K (.ref C0) "wide" = some none)
    (on : PySem.W.specialIn K (.builtin "object.__class__") "__get__" = some (some (.builtin "getset_descriptor.__get__"))) (ot : PySem.W.takesIn K (.builtin "object.__class__") = some true)
    (oa0 : PySem.W.findIn K (.ref C0) "__class__" = some (some (.builtin "object.__class__"))) (om0 : PySem.W.mroIn K C0 (.type "object") = some true)
    (oc0_ : PySem.W.isClsIn K C0 = true) (oy0 : PySem.W.typeIn K (.ref C0) = some (.type "type"))
    (nn0 : PySem.W.findIn K (.ref C0) "__ne__" = some (some (.builtin "object.__ne__")))
    {t_LARGEST : Tok} (g_LARGEST : PySem.W.nsIn K mainGlobals "LARGEST" = some (some (.int 1000000000000000000 t_LARGEST)))
    (z_ValueError : PySem.W.nsIn K mainGlobals "ValueError" = some none)
    (z_abs : PySem.W.nsIn K mainGlobals "abs" = some none)
    (z_all : PySem.W.nsIn K mainGlobals "all" = some none)
    (z_any : PySem.W.nsIn K mainGlobals "any" = some none)
    (z_bool : PySem.W.nsIn K mainGlobals "bool" = some none)
    (z_dict : PySem.W.nsIn K mainGlobals "dict" = some none)
    (z_divmod : PySem.W.nsIn K mainGlobals "divmod" = some none)
    (z_enumerate : PySem.W.nsIn K mainGlobals "enumerate" = some none)
    (z_int : PySem.W.nsIn K mainGlobals "int" = some none)
    (z_isinstance : PySem.W.nsIn K mainGlobals "isinstance" = some none)
    (z_len : PySem.W.nsIn K mainGlobals "len" = some none)
    (z_list : PySem.W.nsIn K mainGlobals "list" = some none)
    (z_max : PySem.W.nsIn K mainGlobals "max" = some none)
    (z_min : PySem.W.nsIn K mainGlobals "min" = some none)
    (z_range : PySem.W.nsIn K mainGlobals "range" = some none)
    (z_repr : PySem.W.nsIn K mainGlobals "repr" = some none)
    (z_set : PySem.W.nsIn K mainGlobals "set" = some none)
    (z_sorted : PySem.W.nsIn K mainGlobals "sorted" = some none)
    (z_sum : PySem.W.nsIn K mainGlobals "sum" = some none)
    (z_tuple : PySem.W.nsIn K mainGlobals "tuple" = some none)
    (z_zip : PySem.W.nsIn K mainGlobals "zip" = some none)
    : ∃ fd : FuncData, (∀ (s : Shared) (v : Value), BindsTo s fd ⟨[v], []⟩ [("_law_script", v)]) ∧
      ∀ base : Heap, K.In base → base.Ns mainGlobals mg →
        FnG l.prog w K mg base 9 fa fd ["_law_script"] (sp_law K) := by
  have e := hfa.symm.trans (PySem.W.mg_of X N a40)
  cases e
  have F0 := fund0 (st := s_wall) l0 c0 k0
  have b0 := bindN (ps := ["k"]) F0 fun _ _ _ _ _ _ us hl => match us, hl with | [_], _ => rfl
  have F1 := fund0 (st := s_ends_of) l1 c1 k1
  have b1 := bindN (ps := ["memory"]) F1 fun _ _ _ _ _ _ us hl => match us, hl with | [_], _ => rfl
  have F2 := fund0 (st := s_spread) l2 c2 k2
  have b2 := bindN (ps := ["memory", "ends"]) F2 fun _ _ _ _ _ _ us hl => match us, hl with | [_, _], _ => rfl
  have F3 := fund0 (st := s_columns) l3 c3 k3
  have b3 := bindN (ps := ["memories"]) F3 fun _ _ _ _ _ _ us hl => match us, hl with | [_], _ => rfl
  have F4 := fund0 (st := s_is_number) l4 c4 k4
  have b4 := bindN (ps := ["thing"]) F4 fun _ _ _ _ _ _ us hl => match us, hl with | [_], _ => rfl
  have F5 := fund0 (st := s_is_whole) l5 c5 k5
  have b5 := bindN (ps := ["thing", "least", "most"]) F5 fun _ _ _ _ _ _ us hl => match us, hl with | [_, _, _], _ => rfl
  have F6 := fund0 (st := s_is_size) l6 c6 k6
  have b6 := bindN (ps := ["thing"]) F6 fun _ _ _ _ _ _ us hl => match us, hl with | [_], _ => rfl
  have F7 := fund0 (st := s_is_run) l7 c7 k7
  have b7 := bindN (ps := ["thing"]) F7 fun _ _ _ _ _ _ us hl => match us, hl with | [_], _ => rfl
  have F8 := fund0 (st := s_are_runs) l8 c8 k8
  have b8 := bindN (ps := ["thing", "size"]) F8 fun _ _ _ _ _ _ us hl => match us, hl with | [_, _], _ => rfl
  have F9 := fund0 (st := s_joined) l9 c9 k9
  have b9 := bindN (ps := ["pairs"]) F9 fun _ _ _ _ _ _ us hl => match us, hl with | [_], _ => rfl
  have F10 := fund0 (st := s_cut_out) l10 c10 k10
  have b10 := bindN (ps := ["pairs", "begin", "end"]) F10 fun _ _ _ _ _ _ us hl => match us, hl with | [_, _, _], _ => rfl
  have F11 := fund0 (st := s_want_size) l11 c11 k11
  have b11 := bindN (ps := ["thing"]) F11 fun _ _ _ _ _ _ us hl => match us, hl with | [_], _ => rfl
  have F12 := fund0 (st := s_want_number) l12 c12 k12
  have b12 := bindN (ps := ["thing"]) F12 fun _ _ _ _ _ _ us hl => match us, hl with | [_], _ => rfl
  have F13 := fund0 (st := s_want_cell) l13 c13 k13
  have b13 := bindN (ps := ["thing", "size"]) F13 fun _ _ _ _ _ _ us hl => match us, hl with | [_, _], _ => rfl
  have F14 := fund0 (st := s_want_stretch) l14 c14 k14
  have b14 := bindN (ps := ["begin", "end", "size"]) F14 fun _ _ _ _ _ _ us hl => match us, hl with | [_, _, _], _ => rfl
  have F15 := fund1 (st := s_Memory_init) (kws := ([("number", V.int 0)] : List (Str × V))) l15 c15 k15 (kw_more q15_0 ⟨_, rfl⟩ (fun q hq => nomatch hq))
  have b15 := bindK (ps := ["self", "size", "number"]) F15 2 (by simp) rfl fun _ _ _ _ _ _ us ks h1 h2 => match us, ks, h1, h2 with | [_, _], [_], _, _ => ⟨_, _, _, _, _, _, rfl, rfl, rfl⟩
  have F16 := fund0 (st := s_Memory_size) l16 c16 k16
  have b16 := bindN (ps := ["self"]) F16 fun _ _ _ _ _ _ us hl => match us, hl with | [_], _ => rfl
  have F17 := fund0 (st := s_Memory_at) l17 c17 k17
  have b17 := bindN (ps := ["self", "cell"]) F17 fun _ _ _ _ _ _ us hl => match us, hl with | [_, _], _ => rfl
  have F18 := fund0 (st := s_Memory_runs) l18 c18 k18
  have b18 := bindN (ps := ["self"]) F18 fun _ _ _ _ _ _ us hl => match us, hl with | [_], _ => rfl
  have F19 := fund0 (st := s_Memory_lay) l19 c19 k19
  have b19 := bindN (ps := ["self", "begin", "pairs", "end"]) F19 fun _ _ _ _ _ _ us hl => match us, hl with | [_, _, _, _], _ => rfl
  have F20 := fund0 (st := s_Memory_put) l20 c20 k20
  have b20 := bindN (ps := ["self", "cell", "number"]) F20 fun _ _ _ _ _ _ us hl => match us, hl with | [_, _, _], _ => rfl
  have F21 := fund0 (st := s_Memory_fill) l21 c21 k21
  have b21 := bindN (ps := ["self", "begin", "end", "number"]) F21 fun _ _ _ _ _ _ us hl => match us, hl with | [_, _, _, _], _ => rfl
  have F22 := fund1 (st := s_Memory_bring) (kws := ([("source", V.non)] : List (Str × V))) l22 c22 k22 (kw_more q22_0 rfl (fun q hq => nomatch hq))
  have b22 := bindK (ps := ["self", "begin", "end", "to", "source"]) F22 4 (by simp) rfl fun _ _ _ _ _ _ us ks h1 h2 => match us, ks, h1, h2 with | [_, _, _, _], [_], _, _ => ⟨_, _, _, _, _, _, rfl, rfl, rfl⟩
  have F23 := fund0 (st := s_Memory_copied) l23 c23 k23
  have b23 := bindN (ps := ["self"]) F23 fun _ _ _ _ _ _ us hl => match us, hl with | [_], _ => rfl
  have F24 := fund0 (st := s_Memory_eq) l24 c24 k24
  have b24 := bindN (ps := ["self", "other"]) F24 fun _ _ _ _ _ _ us hl => match us, hl with | [_, _], _ => rfl
  have F25 := fund0 (st := s_Memory_len) l25 c25 k25
  have b25 := bindN (ps := ["self"]) F25 fun _ _ _ _ _ _ us hl => match us, hl with | [_], _ => rfl
  have F26 := fund0 (st := s_Memory_repr) l26 c26 k26
  have b26 := bindN (ps := ["self"]) F26 fun _ _ _ _ _ _ us hl => match us, hl with | [_], _ => rfl
  have F27 := fund0 (st := s_memory_of) l27 c27 k27
  have b27 := bindN (ps := ["runs"]) F27 fun _ _ _ _ _ _ us hl => match us, hl with | [_], _ => rfl
  have F28 := fund0 (st := s_law_pot) l28 c28 k28
  have b28 := bindN (ps := ["_law_script", "_law_k"]) F28 fun _ _ _ _ _ _ us hl => match us, hl with | [_, _], _ => rfl
  have F29 := fund0 (st := s_law_take) l29 c29 k29
  have b29 := bindN (ps := ["_law_pot_here", "_law_many"]) F29 fun _ _ _ _ _ _ us hl => match us, hl with | [_, _], _ => rfl
  have F30 := fund0 (st := s_law_among) l30 c30 k30
  have b30 := bindN (ps := ["_law_pot_here", "_law_some"]) F30 fun _ _ _ _ _ _ us hl => match us, hl with | [_, _], _ => rfl
  have F31 := fund0 (st := s_law_wide) l31 c31 k31
  have b31 := bindN (ps := ["_law_pot_here"]) F31 fun _ _ _ _ _ _ us hl => match us, hl with | [_], _ => rfl
  have F32 := fund0 (st := s_law_number) l32 c32 k32
  have b32 := bindN (ps := ["_law_pot_here"]) F32 fun _ _ _ _ _ _ us hl => match us, hl with | [_], _ => rfl
  have F33 := fund0 (st := s_law_part) l33 c33 k33
  have b33 := bindN (ps := ["_law_row_here", "_law_begin", "_law_stop"]) F33 fun _ _ _ _ _ _ us hl => match us, hl with | [_, _, _], _ => rfl
  have F34 := fund0 (st := s_law_joined) l34 c34 k34
  have b34 := bindN (ps := ["_law_row_here"]) F34 fun _ _ _ _ _ _ us hl => match us, hl with | [_], _ => rfl
  have F35 := fund0 (st := s_law_row) l35 c35 k35
  have b35 := bindN (ps := ["_law_pot_here", "_law_wide_here", "_law_spots"]) F35 fun _ _ _ _ _ _ us hl => match us, hl with | [_, _, _], _ => rfl
  have F36 := fund0 (st := s_law_columns) l36 c36 k36
  have b36 := bindN (ps := ["_law_model"]) F36 fun _ _ _ _ _ _ us hl => match us, hl with | [_], _ => rfl
  have F37 := fund0 (st := s_law_shown) l37 c37 k37
  have b37 := bindN (ps := ["_law_some"]) F37 fun _ _ _ _ _ _ us hl => match us, hl with | [_], _ => rfl
  have F38 := fund0 (st := s_law_worlds) l38 c38 k38
  have b38 := bindN (ps := ["_law_pot_here"]) F38 fun _ _ _ _ _ _ us hl => match us, hl with | [_], _ => rfl
  have F39 := fund0 (st := s_law_right) l39 c39 k39
  have b39 := bindN (ps := ["_law_pot_here"]) F39 fun _ _ _ _ _ _ us hl => match us, hl with | [_], _ => rfl
  have F40 := fund0 (st := s_law) l40 c40 k40
  have b40 := bindN (ps := ["_law_script"]) F40 fun _ _ _ _ _ _ us hl => match us, hl with | [_], _ => rfl
  let T : Txt K mg := {
    c_Memory := C0, cl_Memory := ⟨pg0, hd0, po0, sa0⟩, mg_Memory := PySem.W.mg_of X N ac0
    na_Memory_pairs := na0_pairs
    na_Memory_wide := na0_wide
    ic_Memory := ⟨⟨pg0, hd0, po0, sa0⟩, oa0, on, ot, om0, kit_me⟩
    ot_Memory := by
      intro n hn
      simp only [tyNames, List.mem_cons, List.not_mem_nil, or_false] at hn
      rcases hn with rfl | rfl | rfl | rfl | rfl | rfl | rfl
      · exact kit_other oc0_ oy0 (by kernel_rfl)
      · exact kit_other oc0_ oy0 (by kernel_rfl)
      · exact kit_other oc0_ oy0 (by kernel_rfl)
      · exact kit_other oc0_ oy0 (by kernel_rfl)
      · exact kit_other oc0_ oy0 (by kernel_rfl)
      · exact kit_other oc0_ oy0 (by kernel_rfl)
      · exact kit_other oc0_ oy0 (by kernel_rfl)
    ne_Memory := nn0
    a_wall := _, d_wall := _, F_wall := F0, b_wall := b0, m_wall := PySem.W.mg_of X N a0
    a_ends_of := _, d_ends_of := _, F_ends_of := F1, b_ends_of := b1, m_ends_of := PySem.W.mg_of X N a1
    a_spread := _, d_spread := _, F_spread := F2, b_spread := b2, m_spread := PySem.W.mg_of X N a2
    a_columns := _, d_columns := _, F_columns := F3, b_columns := b3, m_columns := PySem.W.mg_of X N a3
    a_is_number := _, d_is_number := _, F_is_number := F4, b_is_number := b4, m_is_number := PySem.W.mg_of X N a4
    a_is_whole := _, d_is_whole := _, F_is_whole := F5, b_is_whole := b5, m_is_whole := PySem.W.mg_of X N a5
    a_is_size := _, d_is_size := _, F_is_size := F6, b_is_size := b6, m_is_size := PySem.W.mg_of X N a6
    a_is_run := _, d_is_run := _, F_is_run := F7, b_is_run := b7, m_is_run := PySem.W.mg_of X N a7
    a_are_runs := _, d_are_runs := _, F_are_runs := F8, b_are_runs := b8, m_are_runs := PySem.W.mg_of X N a8
    a_joined := _, d_joined := _, F_joined := F9, b_joined := b9, m_joined := PySem.W.mg_of X N a9
    a_cut_out := _, d_cut_out := _, F_cut_out := F10, b_cut_out := b10, m_cut_out := PySem.W.mg_of X N a10
    a_want_size := _, d_want_size := _, F_want_size := F11, b_want_size := b11, m_want_size := PySem.W.mg_of X N a11
    a_want_number := _, d_want_number := _, F_want_number := F12, b_want_number := b12, m_want_number := PySem.W.mg_of X N a12
    a_want_cell := _, d_want_cell := _, F_want_cell := F13, b_want_cell := b13, m_want_cell := PySem.W.mg_of X N a13
    a_want_stretch := _, d_want_stretch := _, F_want_stretch := F14, b_want_stretch := b14, m_want_stretch := PySem.W.mg_of X N a14
    a_Memory_init := _, d_Memory_init := _, F_Memory_init := F15, b_Memory_init := b15, mk_Memory := ⟨mk0, a15, i15, kc0⟩
    a_Memory_size := _, d_Memory_size := _, F_Memory_size := F16, b_Memory_size := b16, me_Memory_size := ⟨a16, i16, k16⟩
    a_Memory_at := _, d_Memory_at := _, F_Memory_at := F17, b_Memory_at := b17, me_Memory_at := ⟨a17, i17, k17⟩
    a_Memory_runs := _, d_Memory_runs := _, F_Memory_runs := F18, b_Memory_runs := b18, me_Memory_runs := ⟨a18, i18, k18⟩
    a_Memory_lay := _, d_Memory_lay := _, F_Memory_lay := F19, b_Memory_lay := b19, me_Memory_lay := ⟨a19, i19, k19⟩
    a_Memory_put := _, d_Memory_put := _, F_Memory_put := F20, b_Memory_put := b20, me_Memory_put := ⟨a20, i20, k20⟩
    a_Memory_fill := _, d_Memory_fill := _, F_Memory_fill := F21, b_Memory_fill := b21, me_Memory_fill := ⟨a21, i21, k21⟩
    a_Memory_bring := _, d_Memory_bring := _, F_Memory_bring := F22, b_Memory_bring := b22, me_Memory_bring := ⟨a22, i22, k22⟩
    a_Memory_copied := _, d_Memory_copied := _, F_Memory_copied := F23, b_Memory_copied := b23, me_Memory_copied := ⟨a23, i23, k23⟩
    a_Memory_eq := _, d_Memory_eq := _, F_Memory_eq := F24, b_Memory_eq := b24, me_Memory_eq := ⟨a24, i24, k24⟩
    a_Memory_len := _, d_Memory_len := _, F_Memory_len := F25, b_Memory_len := b25, me_Memory_len := ⟨a25, i25, k25⟩
    a_Memory_repr := _, d_Memory_repr := _, F_Memory_repr := F26, b_Memory_repr := b26, me_Memory_repr := ⟨a26, i26, k26⟩
    a_memory_of := _, d_memory_of := _, F_memory_of := F27, b_memory_of := b27, m_memory_of := PySem.W.mg_of X N a27
    a_law_pot := _, d_law_pot := _, F_law_pot := F28, b_law_pot := b28, m_law_pot := PySem.W.mg_of X N a28
    a_law_take := _, d_law_take := _, F_law_take := F29, b_law_take := b29, m_law_take := PySem.W.mg_of X N a29
    a_law_among := _, d_law_among := _, F_law_among := F30, b_law_among := b30, m_law_among := PySem.W.mg_of X N a30
    a_law_wide := _, d_law_wide := _, F_law_wide := F31, b_law_wide := b31, m_law_wide := PySem.W.mg_of X N a31
    a_law_number := _, d_law_number := _, F_law_number := F32, b_law_number := b32, m_law_number := PySem.W.mg_of X N a32
    a_law_part := _, d_law_part := _, F_law_part := F33, b_law_part := b33, m_law_part := PySem.W.mg_of X N a33
    a_law_joined := _, d_law_joined := _, F_law_joined := F34, b_law_joined := b34, m_law_joined := PySem.W.mg_of X N a34
    a_law_row := _, d_law_row := _, F_law_row := F35, b_law_row := b35, m_law_row := PySem.W.mg_of X N a35
    a_law_columns := _, d_law_columns := _, F_law_columns := F36, b_law_columns := b36, m_law_columns := PySem.W.mg_of X N a36
    a_law_shown := _, d_law_shown := _, F_law_shown := F37, b_law_shown := b37, m_law_shown := PySem.W.mg_of X N a37
    a_law_worlds := _, d_law_worlds := _, F_law_worlds := F38, b_law_worlds := b38, m_law_worlds := PySem.W.mg_of X N a38
    a_law_right := _, d_law_right := _, F_law_right := F39, b_law_right := b39, m_law_right := PySem.W.mg_of X N a39
    a_law := _, d_law := _, F_law := F40, b_law := b40, m_law := PySem.W.mg_of X N a40
    kb_columns_0_memories := kbN (ps := ["memories"]) F3 0 ["memories"] [0] fun _ _ _ _ _ _ us ws h1 h2 => match us, ws, h1, h2 with | [], [_], _, _ => rfl
    t_LARGEST := _, g_LARGEST := PySem.W.mg_of X N g_LARGEST
    n_ValueError := PySem.W.mg_none_of X N z_ValueError
    n_abs := PySem.W.mg_none_of X N z_abs
    n_all := PySem.W.mg_none_of X N z_all
    n_any := PySem.W.mg_none_of X N z_any
    n_bool := PySem.W.mg_none_of X N z_bool
    n_dict := PySem.W.mg_none_of X N z_dict
    n_divmod := PySem.W.mg_none_of X N z_divmod
    n_enumerate := PySem.W.mg_none_of X N z_enumerate
    n_int := PySem.W.mg_none_of X N z_int
    n_isinstance := PySem.W.mg_none_of X N z_isinstance
    n_len := PySem.W.mg_none_of X N z_len
    n_list := PySem.W.mg_none_of X N z_list
    n_max := PySem.W.mg_none_of X N z_max
    n_min := PySem.W.mg_none_of X N z_min
    n_range := PySem.W.mg_none_of X N z_range
    n_repr := PySem.W.mg_none_of X N z_repr
    n_set := PySem.W.mg_none_of X N z_set
    n_sorted := PySem.W.mg_none_of X N z_sorted
    n_sum := PySem.W.mg_none_of X N z_sum
    n_tuple := PySem.W.mg_none_of X N z_tuple
    n_zip := PySem.W.mg_none_of X N z_zip
  }
  refine ⟨_, fun s v => .of_eq rfl, fun base _ _ => ok_law T⟩
end My
open PySem PySem.W PyProof.Rows in
set_option maxRecDepth 100000 in
set_option maxHeartbeats 0 in
theorem PySem.Challenge.cw_forkthrift_k41_columns_holds : PySem.Challenge.rw_forkthrift_k41_columns.Holds := by
  w_on; o_law; k_head; (case hw => w_witness2)
  k_fill
  refine G.walkG (l := PySem.Challenge.rw_forkthrift_k41_columns) (sp := My.sp_law) (x := "_law_script") (n := 63) (k := 9) rfl (by decide) rfl ⟨rfl, by decide, by decide⟩ (fun w h Y => PySem.W.kIn_of Y) ?F ?S
  case S => exact fun K H a ns hl hb ho hs => My.law_end hl hb ho hs
  case F =>
    intro w mg fa h KX N hmg
    refine' My.all_mk KX N hmg ?ac0 ?a0 ?l0 ?c0 ?k0 ?a1 ?l1 ?c1 ?k1 ?a2 ?l2 ?c2 ?k2 ?a3 ?l3 ?c3 ?k3 ?a4 ?l4 ?c4 ?k4 ?a5 ?l5 ?c5 ?k5 ?a6 ?l6 ?c6 ?k6 ?a7 ?l7 ?c7 ?k7 ?a8 ?l8 ?c8 ?k8 ?a9 ?l9 ?c9 ?k9 ?a10 ?l10 ?c10 ?k10 ?a11 ?l11 ?c11 ?k11 ?a12 ?l12 ?c12 ?k12 ?a13 ?l13 ?c13 ?k13 ?a14 ?l14 ?c14 ?k14 ?a15 ?i15 ?l15 ?c15 ?k15 ?q15_0 ?a16 ?i16 ?l16 ?c16 ?k16 ?a17 ?i17 ?l17 ?c17 ?k17 ?a18 ?i18 ?l18 ?c18 ?k18 ?a19 ?i19 ?l19 ?c19 ?k19 ?a20 ?i20 ?l20 ?c20 ?k20 ?a21 ?i21 ?l21 ?c21 ?k21 ?a22 ?i22 ?l22 ?c22 ?k22 ?q22_0 ?a23 ?i23 ?l23 ?c23 ?k23 ?a24 ?i24 ?l24 ?c24 ?k24 ?a25 ?i25 ?l25 ?c25 ?k25 ?a26 ?i26 ?l26 ?c26 ?k26 ?a27 ?l27 ?c27 ?k27 ?a28 ?l28 ?c28 ?k28 ?a29 ?l29 ?c29 ?k29 ?a30 ?l30 ?c30 ?k30 ?a31 ?l31 ?c31 ?k31 ?a32 ?l32 ?c32 ?k32 ?a33 ?l33 ?c33 ?k33 ?a34 ?l34 ?c34 ?k34 ?a35 ?l35 ?c35 ?k35 ?a36 ?l36 ?c36 ?k36 ?a37 ?l37 ?c37 ?k37 ?a38 ?l38 ?c38 ?k38 ?a39 ?l39 ?c39 ?k39 ?a40 ?l40 ?c40 ?k40 ?pg0 ?hd0 ?po0 ?sa0 ?mk0 ?kc0 ?na0_pairs ?na0_wide ?on ?ot ?oa0 ?om0 ?oc0_ ?oy0 ?nn0 ?g_LARGEST ?z_ValueError ?z_abs ?z_all ?z_any ?z_bool ?z_dict ?z_divmod ?z_enumerate ?z_int ?z_isinstance ?z_len ?z_list ?z_max ?z_min ?z_range ?z_repr ?z_set ?z_sorted ?z_sum ?z_tuple ?z_zip
    (case ac0 => k_is)
    (case a0 => k_is)
    (case l0 => k_is)
    (case c0 => k_is)
    (case k0 => k_is)
    (case a1 => k_is)
    (case l1 => k_is)
    (case c1 => k_is)
    (case k1 => k_is)
    (case a2 => k_is)
    (case l2 => k_is)
    (case c2 => k_is)
    (case k2 => k_is)
    (case a3 => k_is)
    (case l3 => k_is)
    (case c3 => k_is)
    (case k3 => k_is)
    (case a4 => k_is)
    (case l4 => k_is)
    (case c4 => k_is)
    (case k4 => k_is)
    (case a5 => k_is)
    (case l5 => k_is)
    (case c5 => k_is)
    (case k5 => k_is)
    (case a6 => k_is)
    (case l6 => k_is)
    (case c6 => k_is)
    (case k6 => k_is)
    (case a7 => k_is)
    (case l7 => k_is)
    (case c7 => k_is)
    (case k7 => k_is)
    (case a8 => k_is)
    (case l8 => k_is)
    (case c8 => k_is)
    (case k8 => k_is)
    (case a9 => k_is)
    (case l9 => k_is)
    (case c9 => k_is)
    (case k9 => k_is)
    (case a10 => k_is)
    (case l10 => k_is)
    (case c10 => k_is)
    (case k10 => k_is)
    (case a11 => k_is)
    (case l11 => k_is)
    (case c11 => k_is)
    (case k11 => k_is)
    (case a12 => k_is)
    (case l12 => k_is)
    (case c12 => k_is)
    (case k12 => k_is)
    (case a13 => k_is)
    (case l13 => k_is)
    (case c13 => k_is)
    (case k13 => k_is)
    (case a14 => k_is)
    (case l14 => k_is)
    (case c14 => k_is)
    (case k14 => k_is)
    (case a15 => k_is)
    (case i15 => k_is)
    (case l15 => k_is)
    (case c15 => k_is)
    (case k15 => k_is)
    (case q15_0 => k_is)
    (case a16 => k_is)
    (case i16 => k_is)
    (case l16 => k_is)
    (case c16 => k_is)
    (case k16 => k_is)
    (case a17 => k_is)
    (case i17 => k_is)
    (case l17 => k_is)
    (case c17 => k_is)
    (case k17 => k_is)
    (case a18 => k_is)
    (case i18 => k_is)
    (case l18 => k_is)
    (case c18 => k_is)
    (case k18 => k_is)
    (case a19 => k_is)
    (case i19 => k_is)
    (case l19 => k_is)
    (case c19 => k_is)
    (case k19 => k_is)
    (case a20 => k_is)
    (case i20 => k_is)
    (case l20 => k_is)
    (case c20 => k_is)
    (case k20 => k_is)
    (case a21 => k_is)
    (case i21 => k_is)
    (case l21 => k_is)
    (case c21 => k_is)
    (case k21 => k_is)
    (case a22 => k_is)
    (case i22 => k_is)
    (case l22 => k_is)
    (case c22 => k_is)
    (case k22 => k_is)
    (case q22_0 => k_is)
    (case a23 => k_is)
    (case i23 => k_is)
    (case l23 => k_is)
    (case c23 => k_is)
    (case k23 => k_is)
    (case a24 => k_is)
    (case i24 => k_is)
    (case l24 => k_is)
    (case c24 => k_is)
    (case k24 => k_is)
    (case a25 => k_is)
    (case i25 => k_is)
    (case l25 => k_is)
    (case c25 => k_is)
    (case k25 => k_is)
    (case a26 => k_is)
    (case i26 => k_is)
    (case l26 => k_is)
    (case c26 => k_is)
    (case k26 => k_is)
    (case a27 => k_is)
    (case l27 => k_is)
    (case c27 => k_is)
    (case k27 => k_is)
    (case a28 => k_is)
    (case l28 => k_is)
    (case c28 => k_is)
    (case k28 => k_is)
    (case a29 => k_is)
    (case l29 => k_is)
    (case c29 => k_is)
    (case k29 => k_is)
    (case a30 => k_is)
    (case l30 => k_is)
    (case c30 => k_is)
    (case k30 => k_is)
    (case a31 => k_is)
    (case l31 => k_is)
    (case c31 => k_is)
    (case k31 => k_is)
    (case a32 => k_is)
    (case l32 => k_is)
    (case c32 => k_is)
    (case k32 => k_is)
    (case a33 => k_is)
    (case l33 => k_is)
    (case c33 => k_is)
    (case k33 => k_is)
    (case a34 => k_is)
    (case l34 => k_is)
    (case c34 => k_is)
    (case k34 => k_is)
    (case a35 => k_is)
    (case l35 => k_is)
    (case c35 => k_is)
    (case k35 => k_is)
    (case a36 => k_is)
    (case l36 => k_is)
    (case c36 => k_is)
    (case k36 => k_is)
    (case a37 => k_is)
    (case l37 => k_is)
    (case c37 => k_is)
    (case k37 => k_is)
    (case a38 => k_is)
    (case l38 => k_is)
    (case c38 => k_is)
    (case k38 => k_is)
    (case a39 => k_is)
    (case l39 => k_is)
    (case c39 => k_is)
    (case k39 => k_is)
    (case a40 => k_is)
    (case l40 => k_is)
    (case c40 => k_is)
    (case k40 => k_is)
    (case pg0 => k_is)
    (case hd0 => k_is)
    (case po0 => k_is)
    (case sa0 => k_is)
    (case mk0 => k_is)
    (case kc0 => k_is)
    (case na0_pairs => k_is)
    (case na0_wide => k_is)
    (case on => k_is)
    (case ot => k_is)
    (case oa0 => k_is)
    (case om0 => k_is)
    (case oc0_ => k_is)
    (case oy0 => k_is)
    (case nn0 => k_is)
    (case g_LARGEST => k_is)
    (case z_ValueError => k_is)
    (case z_abs => k_is)
    (case z_all => k_is)
    (case z_any => k_is)
    (case z_bool => k_is)
    (case z_dict => k_is)
    (case z_divmod => k_is)
    (case z_enumerate => k_is)
    (case z_int => k_is)
    (case z_isinstance => k_is)
    (case z_len => k_is)
    (case z_list => k_is)
    (case z_max => k_is)
    (case z_min => k_is)
    (case z_range => k_is)
    (case z_repr => k_is)
    (case z_set => k_is)
    (case z_sorted => k_is)
    (case z_sum => k_is)
    (case z_tuple => k_is)
    (case z_zip => k_is)
#print axioms PySem.Challenge.cw_forkthrift_k41_columns_holds

