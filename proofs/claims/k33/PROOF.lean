import PyProof.Rows.All
import Wide.All
import OpenK.AllK
import Wide.FinOn
import HandS.ForMost
import HandS.ForExc
import HandS.WideBits
import HandS.EndBits
import HandS.Defaults
import HandS.FStrTup
import HandS.IsInst
import HandS.More
import HandS.Style
import HandS.Steps
import HandS.MakeKwOnly
import HandS.SortInts
import HandS.SortRule
import HandS.DictComp
import HandS.SetFor
import HandS.Remove
import HandS.Small
import HandS.Codes
import HandS.WordsDict
import HandS.ExcInit
import HandS.ExcIs
import HandS.ExcField
import KE.KExcIs
import HandS.Deep
import HandS.Zip
import HandS.Conv
import HandS.SetBool
import HandS.Strs
import HandS.TupSets
import PyProof.Walks
import PyProof.FactsAll.subtypes_4
import KE.KDictZip
import KE.SortData
import PySem.Challenge.RW_forkthrift_k33_whole_first_of_the_least
set_option Elab.async false
set_option linter.all false
set_option maxRecDepth 100000
set_option maxHeartbeats 4000000
namespace G
open PySem PySem.Spec PyProof.Rows L2

/-! the call layer once more, with the guards known -/
structure RoomG (k : Nat) (A : Around) : Prop where
  r : Room k A
  g : A.guards = some []
theorem RoomG.mono {j k : Nat} {A : Around} (z : RoomG k A) (h : j ≤ k) : RoomG j A :=
  ⟨z.r.mono h, z.g⟩
theorem RoomG.deeper {k : Nat} {A : Around} (z : RoomG (k + 1) A) (env : Env) :
    RoomG k (A.deeper env) := ⟨z.r.deeper env, z.g⟩
theorem make_guards {A : Around} {C : Addr} {us : List Value} {kw : List (Str × Value)} :
    (A.under (.builtin "type.__call__" ⟨.ref C :: us, kw⟩)).guards = A.guards := by
  first
    | rfl
    | (simp only [Around.under]
       rw [pushGuards_eq]
       have e : Code.guards (.builtin "type.__call__" ⟨.ref C :: us, kw⟩) = [] := by
         simp [Code.guards, Code.isGuard, guardIds]
       rw [e]
       cases A.guards <;> rfl)
theorem RoomG.make {k : Nat} {A : Around} (z : RoomG (k + 1) A) (C : Addr) (us : List Value)
    (kw : List (Str × Value)) : RoomG k (A.under (.builtin "type.__call__" ⟨.ref C :: us, kw⟩)) :=
  ⟨z.r.make C us kw, make_guards.trans z.g⟩

structure FnG (P : Program) (w : World) (K : PySem.W.Frag) (mg : Str → Option Value) (base : Heap)
    (k : Nat) (f : Addr) (fd : FuncData) (ps : List Str) (sp : Sp) : Prop where
  len : ∀ vs H Q E, sp vs H Q E → vs.length = ps.length
  run : ∀ (A : Around) (outer : List Env) (s : Shared) (H : Hp) (args : Args) (us : List Value)
    (vs : List V) (Q : VK) (E : XK), RoomG k A → Env0 P w K mg base A outer s H →
    BindsTo s fd args (ps.zip us) → Vals vs us → sp vs H Q E →
    codeAny (model P w) A (.call (.ref f) args) (CR (L2.CX P w) outer P w H s Q E) s
section
variable {P : Program} {w : World} {K : PySem.W.Frag} {mg : Str → Option Value} {base : Heap}
theorem FnG.mono {j k : Nat} {f : Addr} {fd : FuncData} {ps : List Str} {sp : Sp}
    (F : FnG P w K mg base j f fd ps sp) (h : j ≤ k) : FnG P w K mg base k f fd ps sp :=
  ⟨F.len, fun A o s H args us vs Q E z => F.run A o s H args us vs Q E (z.mono h)⟩
theorem FnG.of {k : Nat} {f : Addr} {fd : FuncData} {ps : List Str} {sp : Sp}
    (F : FnOk P w K mg base (L2.CX P w) k f fd ps sp) : FnG P w K mg base k f fd ps sp :=
  ⟨F.len, fun A o s H args us vs Q E z => F.run A o s H args us vs Q E z.r⟩

/-- a def by its body -/
theorem FnG.body {k : Nat} {f : Addr} {name qual : Str} {params : Arguments} {body : List Stmt}
    {sc : Scope} {dV kV doc pm cdv ct oc : Value} {an od : Option Addr} {osl : Array (Option Value)}
    {N ps : List Str} {sp : Sp}
    (lk : K.lookup f = some ⟨oc, od, .func (PySem.W.fnOf name qual params body sc dV kV doc pm an cdv ct), osl⟩)
    (hcd : PySem.W.codeIn K cdv qual = true) (S : FnScope N ps sc)
    (len : ∀ vs H Q E, sp vs H Q E → vs.length = ps.length)
    (hb : ∀ (A : Around) (outer : List Env) (s : Shared) (H : Hp) (vs : List V) (Q : VK) (E : XK),
      RoomG k (A.deeper (envOfC qual sc s.heap.objs.size f cdv)) → sp vs H Q E →
      ∃ t, PSs (cxOf (L2.CX P w) P w K mg base N qual sc f cdv A outer s H E) body t ∧
        t { nx := fun _ H' => Q .non H', rt := Q } (start N vs) H) :
    FnG P w K mg base (k + 1) f
      (PySem.W.fnOf name qual params body sc dV kV doc pm an cdv ct) ps sp := by
  refine ⟨len, ?_⟩
  intro A outer s H args us vs Q E z e0 bd rv hsp
  have n0 := len _ _ _ _ hsp
  have kin : K.In s.heap :=
    e0.mod.kin.keeps (fun b o e => (e0.bs b o e).1)
  have lim : s.heap.NoLimit :=
    e0.mod.nolimit.keeps (fun b o e => (e0.bs b o e).1)
  have kinds : ∀ y ∈ ps.zip us, sc.names.lookup y.1 = some .local ∨
      (sc.names.lookup y.1 = some .cell ∧
        ((cellsFrom (s.heap.objs.size + 1) sc.names []).lookup y.1).isSome = true) := by
    intro y hy
    obtain ⟨m, v⟩ := y
    cases S.par m (List.of_mem_zip hy).1 with
    | inl q => exact Or.inl q
    | inr q => exact Or.inr ⟨q, PySem.W.cellsFrom_some _ _ _ (Or.inl q)⟩
  refine codeAny_call_function z.r.depth (kin _ _ lk) rfl S.co S.gen rfl
    (PySem.W.codeRec_of kin hcd) (bd _ _ _ _ ?_)
  refine wpAny_newFunctionEnv_cells S.kind kinds ?_
  intro env he s1 x
  subst he
  refine ⟨lim.keeps x.toInCall.keep, ?_⟩
  refine codeAny_func ?_
  obtain ⟨t, ht, hq⟩ := hb A outer s H vs Q E (z.deeper _) hsp
  have I := inv_start (CX := L2.CX P w) (K := K) (mg := mg) (base := base) (E := E)
    S z.r.hd e0 n0 rv x
  refine wpAny_mono (ht.run [] s1 (start N vs) H _ I hq) ?_ (fun e s' hs => hs)
  intro fl s' hs
  have fin : ∀ {τ : L2.St} {G : Hp} {v : V} {u : Value},
      Inv (cxOf (L2.CX P w) P w K mg base N qual sc f cdv A outer s H E) [] τ G s' →
      RelV v u → Q v G → CE outer P w H s Q u s' := by
    intro τ G v u J r q
    exact ⟨v, G, J.os, J.bare, J.base, J.hok, r, q⟩
  match fl, hs with
  | .ret u, ⟨v, τ, G, J, r, q⟩ => exact fin J r q
  | .next, ⟨τ, G, J, q⟩ => exact fin (v := .non) (u := Value.none) J rfl q
  | .brk, ⟨_, _, _, q⟩ => exact False.elim q
  | .cont, ⟨_, _, _, q⟩ => exact False.elim q
end
end G
namespace G
open PySem PySem.Spec PyProof.Rows L2
section
variable {X : Cx} {k n : Nat} {f C : Addr} {fd : FuncData} {ps ks : List Str} {sp : Sp}
variable {dvs : List V} {ds : List Value} {E : XK} {x m : Str} {p pos apos : Pos} {e o : Expr}
variable {es : List Expr} {ta : TE} {t tk : TA} {pins : List (Addr × Obj)} {σ : L2.St} {H : Hp}
variable {s s' : Shared} {Q : VK}
abbrev Fg (X : Cx) (k : Nat) (f : Addr) (fd : FuncData) (ps : List Str) (sp : Sp) : Prop :=
  FnG X.prog X.w X.K X.mg X.base k f fd ps sp
abbrev Ps (X : Cx) (E : XK) : Prop := Passes (L2.CX X.prog X.w) X E

def Got (X : Cx) (R : Value → Shared → Prop) : Result → Shared → Prop
  | .ok (.ret u), s' => R u s'
  | .ok _, _ => False
  | .error e, s' => X.xe e s'
theorem ended (I : Inv X pins σ H s) (hx : Ps X E) {R : Value → Shared → Prop}
    (hR : ∀ u s', CE X.stack X.prog X.w H s Q u s' → R u s') {r : Result}
    (q : CR (L2.CX X.prog X.w) X.stack X.prog X.w H s Q E r s') : Got X R r s' := by
  match r, q with
  | .error e, q => exact hx pins σ H s e s' I q
  | .ok (.ret u), q => exact hR u s' q
  | .ok .next, q => exact False.elim q
  | .ok .brk, q => exact False.elim q
  | .ok .cont, q => exact False.elim q

theorem runG {args : Args} {us : List Value} {vs : List V} (F : Fg X k f fd ps sp)
    (z : RoomG k X.A) (hb : BindsTo s fd args (ps.zip us)) (hx : Ps X E) (I : Inv X pins σ H s)
    (rv : Vals vs us) (h : sp vs H Q E) :
    codeAny (model X.prog X.w) X.A (.call (.ref f) args) (Got X (EP X pins σ Q)) s := by
  refine codeAny_mono (F.run X.A X.stack s H args us vs Q E z I.env0 hb rv h) ?_
  intro r s' q
  exact ended I hx (fun u s' c => I.after c) q

theorem run1 {us : List Value} {vs : List V} (F : Fg X k f fd ps sp) (z : RoomG k X.A)
    (hb : Binds X.K fd ps ds) (hd : Vals dvs ds) (hx : Ps X E) (I : Inv X pins σ H s)
    (rv : Vals vs us) (h : sp (vs ++ dvs) H Q E) :
    wpAny (model X.prog X.w) X.A (call (.ref f) us) (EP X pins σ Q) X.xe s := by
  have r2 : Vals (vs ++ dvs) (us ++ ds) := rv.append hd
  have hl : (us ++ ds).length = ps.length := by
    rw [← r2.length]
    exact F.len _ _ _ _ h
  refine wpAny_call (codeAny_mono (runG F z (hb s us I.kIn hl) hx I r2 h) ?_)
  intro r s' q
  match r, q with
  | .error e, q => exact q
  | .ok (.ret u), q => exact q
  | .ok .next, q => exact q
  | .ok .brk, q => exact q
  | .ok .cont, q => exact q

theorem c1 (F : Fg X k f fd ps sp) (z : RoomG k X.A) (hg : Gl X x) (hm : X.mg x = some (.ref f))
    (hk : PySem.W.keepIn X.K (.ref f) = true) (hb : Binds X.K fd ps ds) (hd : Vals dvs ds)
    (hx : Ps X E) (ha : PA X (e :: es) t)
    (hdb : (x == ("__debug__" : Str)) = false := by decide)
    (he : starEach (e :: es) X.env = (false, eval e X.env) :: starEach es X.env := by rfl)
    (hpl : (backTo pos (starEach es X.env)).any (·.1) = false := by rfl) :
    PE X (.Call (.Name x p) (e :: es) [] pos) (tCall sp dvs E t) := by
  constructor
  intro pins s σ H Q I h
  refine wpAny_Call_Name_kw (ld_glob I hg hm ?_ hdb)
  refine PySem.W.callWith_K (h₀ := X.base) I.ok.mod.kin hk ?_ he hpl
  refine thn (ha.run pos pins s σ H _ I h) ?_
  intro us s1 y
  obtain ⟨vs, H1, I1, r, q⟩ := y
  exact ⟨I1.kIn, run1 F z hb hd hx I1 r q⟩

theorem c0 (F : Fg X k f fd ps sp) (z : RoomG k X.A) (hg : Gl X x) (hm : X.mg x = some (.ref f))
    (hk : PySem.W.keepIn X.K (.ref f) = true) (hb : Binds X.K fd ps ds) (hd : Vals dvs ds)
    (hx : Ps X E) (hdb : (x == ("__debug__" : Str)) = false := by decide) :
    PE X (.Call (.Name x p) [] [] pos) (tCall sp dvs E tNil) := by
  constructor
  intro pins s σ H Q I h
  refine wpAny_Call_Name_kw (ld_glob I hg hm ?_ hdb)
  exact PySem.W.callWith_K0 I.kIn hk (run1 (us := []) F z hb hd hx I .nil h)

/-- o.m(..) -/
theorem cm {pl : Sem Bool} (he : PE X o ta) (c : Cls X.K C) (hm : Meth X.K C m f)
    (F : Fg X k f fd ps sp) (z : RoomG k X.A) (hb : Binds X.K fd ps ds) (hd : Vals dvs ds)
    (hx : Ps X E) (ha : PA X (e :: es) t)
    (hst : starEach (e :: es) X.env = (false, eval e X.env) :: starEach es X.env := by rfl)
    (hpl : (backTo pos (starEach es X.env)).any (·.1) = false := by rfl)
    (ht : eval (.Call (.Attribute o m apos) (e :: es) [] pos) X.env = (do
      let y ← eval o X.env
      standAt apos.atName
      let (g, a) ← holding [y] (getMethod y m pl)
      callWith pos g a (backTo pos (starEach (e :: es) X.env))
        (backToKw pos (keywordEach [] X.env))) := by rfl) :
    PE X (.Call (.Attribute o m apos) (e :: es) [] pos) (tMeth C m sp dvs E ta t) := by
  constructor
  intro pins s σ H Q I h
  refine PySem.W.methodCall_KW (pl := pl) (thn (he.run pins s σ H _ I h) ?_) ht
  intro u s1 y
  obtain ⟨v, H1, I1, rx, a, dx, fs, ex, ea, l, q⟩ := y
  subst ex
  obtain rfl : u = Value.ref a := rx
  refine getmeth_ok I1 ea c hm l ?_
  refine PySem.W.callWith_K (first := [.ref a]) (h₀ := X.base) I.ok.mod.kin hm.kp ?_ hst hpl
  refine thn (ha.run pos pins s1 σ H1 _ I1 q) ?_
  intro us s2 y
  obtain ⟨vs, H2, I2, r, q2⟩ := y
  exact ⟨I2.kIn, run1 (us := .ref a :: us) (vs := .ref a :: vs) F z hb hd hx I2 (.cons rfl r) q2⟩
/-- o.m() -/
theorem cm0 {pl : Sem Bool} (he : PE X o ta) (c : Cls X.K C) (hm : Meth X.K C m f)
    (F : Fg X k f fd ps sp) (z : RoomG k X.A) (hb : Binds X.K fd ps ds) (hd : Vals dvs ds)
    (hx : Ps X E)
    (ht : eval (.Call (.Attribute o m apos) [] [] pos) X.env = (do
      let y ← eval o X.env
      standAt apos.atName
      let (g, a) ← holding [y] (getMethod y m pl)
      callWith pos g a (backTo pos (starEach [] X.env))
        (backToKw pos (keywordEach [] X.env))) := by rfl) :
    PE X (.Call (.Attribute o m apos) [] [] pos) (tMeth C m sp dvs E ta tNil) := by
  constructor
  intro pins s σ H Q I h
  refine PySem.W.methodCall_KW (pl := pl) (thn (he.run pins s σ H _ I h) ?_) ht
  intro u s1 y
  obtain ⟨v, H1, I1, rx, a, dx, fs, ex, ea, l, q⟩ := y
  subst ex
  obtain rfl : u = Value.ref a := rx
  refine getmeth_ok I1 ea c hm l ?_
  refine PySem.W.callWith_K0 (first := [.ref a]) I1.kIn hm.kp ?_
  exact run1 (us := [.ref a]) (vs := [.ref a]) F z hb hd hx I1 (.cons rfl .nil) q
end
end G
namespace G
open PySem PySem.Spec PyProof.Rows L2

/-- the heap at the law's entry: the script alone is tracked, or nothing -/
theorem lawG {P : Program} {w : World} {K : PySem.W.Frag} {mg mb : Str → Option Value} {k : Nat}
    {fa a : Addr} {fd : FuncData} {x : Str} {sp : Sp} {s0 : Shared} {vs : List Value}
    {ns : List Int} (kin : K.In s0.heap) (hns : s0.heap.Ns mainGlobals mg)
    (hb : s0.heap.Ns builtinsNs mb) (hbb : ∀ y : Str, y ≠ "__name__" → mb y = bootBuiltins y)
    (lim : s0.heap.NoLimit) (hg : s0.gens = #[])
    (ha : s0.heap.get? a = some { cls := .type "list", data := .seq vs.toArray })
    (hi : IntsAre vs ns) (hl : ns.length ≤ sizeLine) (z : RoomG k callerA)
    (F : ∀ base : Heap, K.In base → base.Ns mainGlobals mg → FnG P w K mg base k fa fd [x] sp)
    (bd : ∀ (s : Shared) (u : Value), BindsTo s fd ⟨[u], []⟩ [(x, u)])
    (hsp : ∀ H : Hp, Only H → SqL K H a (ns.map V.int) →
      sp [.ref a] H (fun v _ => v = .bl true) fun _ _ _ => False) :
    codeAny (model P w) callerA (.call (.ref fa) ⟨[.ref a], []⟩)
      (fun r s' => r = .ok (.ret (.bool true)) ∧ OldK s0.heap s'.heap ∧ s'.os = s0.os ∧
        AllBare s'.gens) s0 := by
  have rv := vals_ints hi
  have lv := hi.length
  have core : ∀ H : Hp, Only H → SqL K H a (ns.map V.int) → HOk P w H s0.heap →
      (∀ b, H b ≠ none → b = a) → (H a ≠ none → K.lookup a = none) →
      codeAny (model P w) callerA (.call (.ref fa) ⟨[.ref a], []⟩)
        (fun r s' => r = .ok (.ret (.bool true)) ∧ OldK s0.heap s'.heap ∧ s'.os = s0.os ∧
          AllBare s'.gens) s0 := by
    intro H only sq hok only_a notK
    have at_a : ∀ {b : Addr}, H b ≠ none → b = a := fun {b} q => only_a b q
    have seqs : ∀ {b : Addr} {o : Obj} {es : Array DictEntry} {ep : Nat},
        s0.heap.get? b = some o → o.data = .dict es ep → H b = none := by
      intro b o es ep e d
      cases q : H b with
      | none => rfl
      | some u =>
        obtain rfl := at_a (b := b) (by rw [q]; exact fun y => nomatch y)
        rw [ha] at e
        cases e
        have d' : Data.seq vs.toArray _ = Data.dict es ep := d
        cases d'
    have nsb : ∀ {b : Addr} {g : Str → Option Value}, s0.heap.Ns b g →
        (hidT s0.heap H).Ns b g := by
      intro b g y
      obtain ⟨o, es, ep, e, d, r⟩ := y
      exact ⟨o, es, ep, hidT_get e (seqs e d), d, r⟩
    have kb : K.In (hidT s0.heap H) := by
      intro b o e
      refine hidT_get (kin b o e) ?_
      cases q : H b with
      | none => rfl
      | some u =>
        obtain rfl := at_a (b := b) (by rw [q]; exact fun y => nomatch y)
        rw [notK (by rw [q]; exact fun y => nomatch y)] at e
        cases e
    have md : Mod K mg (hidT s0.heap H) := by
      obtain ⟨mc, l1, l2⟩ := lim
      exact ⟨kb, nsb hns, ⟨mb, nsb hb, hbb⟩, ⟨mc, nsb l1, l2⟩⟩
    have e0 : Env0 P w K mg (hidT s0.heap H) callerA [] s0 H :=
      ⟨rfl, md, fun b o e => of_hidT e, Nat.le_of_eq (hidT_size _ _), trivial,
        fun b q => absurd (show b ∈ ([] : List Addr) from q) List.not_mem_nil, hok, .of_eq hg⟩
    have run := (F _ kb (nsb hns)).run callerA [] s0 H ⟨[.ref a], []⟩ [.ref a] [.ref a] _ _
      z e0 (bd s0 (.ref a)) (.cons rfl .nil) (hsp H only sq)
    refine codeAny_mono run ?_
    intro r s' h
    match r, h with
    | .error e, h =>
      obtain ⟨_, _, _, _, _, _, _, _, _, _, _, _, y⟩ := h
      exact y.elim
    | .ok .next, h => exact False.elim h
    | .ok .brk, h => exact False.elim h
    | .ok .cont, h => exact False.elim h
    | .ok (.ret u), h =>
      obtain ⟨v, H', os, bare, un, hok', r', q⟩ := h
      have q' : v = .bl true := q
      subst q'
      obtain rfl : u = Value.bool true := r'
      refine ⟨rfl, OldK.of_keep ?_, os, bare⟩
      intro b o e
      cases q : H b with
      | none =>
        exact un.keep b o e q (fun y => absurd (show b ∈ ([] : List Addr) from y) List.not_mem_nil)
          List.not_mem_nil
      | some u =>
        rcases only b with y | ⟨ob, xs, y⟩
        · rw [q] at y
          cases y
        · obtain ⟨e1, _⟩ := hok b _ y
          obtain ⟨e2, _⟩ := hok' b _ (un.frzs b ob _ y)
          rw [e] at e1
          cases e1
          exact e2
  cases hk : K.lookup a with
  | some o =>
    have e := kin a o hk
    rw [ha] at e
    cases e
    refine core (fun _ => none) (fun _ => Or.inl rfl) (Or.inr ?_) ?_ (fun b y => absurd rfl y)
      (fun y => absurd rfl y)
    · refine ⟨_, vs.toArray, _, hk, rfl, rfl, rfl, ?_, ?_⟩
      · rw [List.size_toArray, lv]
        exact hl
      · simpa using rv
    · intro b u y
      have y' : (none : Option HO) = some u := y
      cases y'
  | none =>
    refine core (fun b => if b = a then
      some (.frz { cls := .type "list", data := .seq vs.toArray } (.lst (ns.map V.int)))
      else none) ?_ (Or.inl (Or.inr ⟨_, if_pos rfl⟩)) ?_ ?_ (fun _ => hk)
    · intro b
      by_cases q : b = a
      · exact Or.inr ⟨_, _, if_pos q⟩
      · exact Or.inl (if_neg q)
    · intro b u y
      by_cases q : b = a
      · have y' := (if_pos q).symm.trans y
        cases y'
        subst q
        refine ⟨ha, ?_, vs, _, rv, ha⟩
        rw [List.length_map]
        exact hl
      · have y' := (if_neg q).symm.trans y
        cases y'
    · intro b y
      by_cases q : b = a
      · exact q
      · exact absurd (if_neg q) y

/-- the end of a law row, the script's bits told -/
theorem walkG {l : PySem.W.OpenLaw} {n k : Nat} {q : Program} {loose : List Str}
    {XP : (Str → Option Value) → Heap → Prop} {YP : World → Heap → Prop} {d : DefRec}
    {K : Params → PySem.W.Frag} {sp : PySem.W.Frag → Sp} {x : Str} (hn : l.most = some n)
    (hn2 : n ≤ sizeLine) (hdf : d.params.defaults = []) (hr : Room k callerA)
    (hY : ∀ (w : World) (h : Heap), YP w h → (K w.params).In h)
    (F : ∀ (w : World) (mg : Str → Option Value) (fa : Addr) (h : Heap), (K w.params).In h →
      h.Ns mainGlobals mg → mg d.name = some (.ref fa) →
      ∃ fd : FuncData, (∀ (s : Shared) (u : Value), BindsTo s fd ⟨[u], []⟩ [(x, u)]) ∧
        ∀ base : Heap, (K w.params).In base → base.Ns mainGlobals mg →
          FnG l.prog w (K w.params) mg base k fa fd [x] (sp (K w.params)))
    (hsp : ∀ (K : PySem.W.Frag) (H : Hp) (a : Addr) (ns : List Int), ns.length ≤ n →
      (∀ z ∈ ns, Builtin.Int.intBits z ≤ 1048576) → Only H → SqL K H a (ns.map V.int) →
      sp K [.ref a] H (fun v _ => v = .bl true) fun _ _ _ => False) :
    PySem.W.WalkO q loose XP YP l.row.toRowW d [] (fun f vs => PySem.call f vs) := by
  refine Att.attach_callB hn hdf ?_
  intro w s0 s1 mg mb fa o pm cd doc a vs ns T Y ho hd hcd hmg hobj hints hlen hbits hg
  have kin := hY w _ Y
  obtain ⟨fd, hb, hF⟩ := F w mg fa _ kin T.T.g hmg
  exact lawG kin T.T.g T.T.b T.T.builtins T.T.nolimit hg hobj hints (Nat.le_trans hlen hn2)
    ⟨hr, rfl⟩ hF hb (fun H hO hS => hsp _ H a ns hlen hbits hO hS)
end G
namespace G
open PySem PySem.Spec PyProof.Rows L2

/-! ### repr of data -/

mutual
def cw : PyData → Nat
  | .none => 4
  | .bool _ => 5
  | .int _ => 1930
  | .str x => 10 * x.length + 4
  | .list xs => cws xs + 2
  | .tuple xs => cws xs + 2
  | .dict _ => 0
def cws : List PyData → Nat
  | [] => 0
  | x :: xs => cw x + 2 + cws xs
end
mutual
/-- it may be shown: ints of few bits, texts of plain signs, no dict -/
def shw : PyData → Bool
  | .none => true
  | .bool _ => true
  | .int i => decide (i.natAbs.log2 < 1920)
  | .str x => x.cps.toList.all fun c => decide (c < 16 ^ 8)
  | .list xs => shws xs
  | .tuple xs => shws xs
  | .dict _ => false
def shws : List PyData → Bool
  | [] => true
  | x :: xs => shw x && shws xs
end
theorem list_text (ts : List Str) : (listText ts).length ≤ piled ts + 2 := by
  unfold listText
  rw [strLen_append]
  have e1 : (("[" : Str)).length = 1 := by decide +kernel
  have e2 : (("]" : Str)).length = 1 := by decide +kernel
  cases ts with
  | nil =>
    show (("[" : Str)).length + (("]" : Str)).length ≤ _
    omega
  | cons t r =>
    have q := textFrom_length_pos r 1 (("[" : Str) ++ (if 0 > 0 then ", " else "" : String) ++ t) (by decide)
    have e3 : ((if 0 > 0 then ", " else "" : String) : Str).length = 0 := by decide +kernel
    have q2 : (textFrom 0 "[" (t :: r)).length = (("[" : Str) ++ (if 0 > 0 then ", " else "" : String) ++ t).length + piled r := q
    rw [q2, strLen_append, strLen_append, piled_cons]
    omega
mutual
theorem shown_len : ∀ d : PyData, shw d = true → d.shown.length ≤ cw d
  | .none, _ => by simp only [PyData.shown, cw]; decide +kernel
  | .bool b, _ => by cases b <;> (simp only [PyData.shown, cw]; decide +kernel)
  | .int i, h => by
    simp only [shw, decide_eq_true_eq] at h
    simp only [PyData.shown, cw]
    have q := int_text_length_le (a := i) (k := 1920) (by decide) h
    rw [PySem.ofString_length]
    omega
  | .str x, h => by
    simp only [shw, List.all_eq_true, decide_eq_true_eq] at h
    simp only [PyData.shown, cw]
    have q := StrLaws.reprText_len x h
    omega
  | .list xs, h => by
    simp only [shw] at h
    simp only [PyData.shown, cw]
    exact Nat.le_trans (list_text _) (Nat.add_le_add_right (shown_lens xs h) 2)
  | .tuple xs, h => by
    simp only [shw] at h
    simp only [PyData.shown, cw]
    exact Nat.le_trans (fmt_text _) (Nat.add_le_add_right (shown_lens xs h) 2)
  | .dict _, h => by simp only [shw] at h; cases h
theorem shown_lens : ∀ ds : List PyData, shws ds = true → piled (PyData.shownAll ds) ≤ cws ds
  | [], _ => Nat.zero_le _
  | d :: ds, h => by
    simp only [shws, Bool.and_eq_true] at h
    simp only [PyData.shownAll, cws, piled_cons]
    have q1 := shown_len d h.1
    have q2 := shown_lens ds h.2
    omega
end
mutual
theorem shw_showable : ∀ d : PyData, shw d = true → d.showable = true ∧ d.hasDict = false
  | .none, _ => ⟨rfl, rfl⟩
  | .bool _, _ => ⟨rfl, rfl⟩
  | .int i, h => ⟨by simpa only [shw, PyData.showable] using h, rfl⟩
  | .str x, _ => ⟨rfl, rfl⟩
  | .list xs, h => by
    simp only [shw] at h
    simpa only [PyData.showable, PyData.hasDict] using shws_showable xs h
  | .tuple xs, h => by
    simp only [shw] at h
    simpa only [PyData.showable, PyData.hasDict] using shws_showable xs h
  | .dict _, h => by simp only [shw] at h; cases h
theorem shws_showable : ∀ ds : List PyData, shws ds = true →
    PyData.showableAll ds = true ∧ PyData.hasDictAll ds = false
  | [], _ => ⟨rfl, rfl⟩
  | d :: ds, h => by
    simp only [shws, Bool.and_eq_true] at h
    obtain ⟨a, b⟩ := shw_showable d h.1
    obtain ⟨e, f⟩ := shws_showable ds h.2
    simp only [PyData.showableAll, PyData.hasDictAll, a, b, e, f]
    exact ⟨rfl, rfl⟩
end
/-- repr(x), x data -/
def rRepr (K : PySem.W.Frag) : List V → Hp → VK → Prop := fun xs H Q =>
  ∃ x d, xs = [x] ∧ Dp K H x d ∧ shw d = true ∧ d.depth ≤ 60 ∧ cw d ≤ sizeLine ∧ Q (.str d.shown) H
theorem call_repr {X : Cx} (hg : X.A.guards = some []) (hu : X.A.units + 64 < cLine) :
    CallR X (.builtin "repr") (rRepr X.K) := by
  intro pins s σ H vs us Q I rv h
  obtain ⟨x, d, rfl, hd, hs, hdp, hz, q⟩ := h
  obtain ⟨hs1, hs2⟩ := shw_showable d hs
  have hz2 := Nat.le_trans (shown_len d hs) hz
  cases rv with
  | cons r rn =>
    cases rn
    obtain ⟨as, hr⟩ := Dp.reads I d _ _ hd r
    cases hr with
    | none => exact PySem.P.repr_of_none ⟨.str _, H, I.tok _, ⟨_, rfl⟩, q⟩
    | bool b => exact PySem.P.repr_of_bool ⟨.str _, H, I.tok _, ⟨_, rfl⟩, q⟩
    | int i t =>
      refine PySem.P.repr_of_int ?_ ⟨.str _, H, I.tok _, ⟨_, rfl⟩, q⟩
      first | exact hs | simpa only [shw, decide_eq_true_eq] using hs
    | str y t => exact PySem.P.repr_of_str ⟨.str _, H, I.tok _, ⟨_, rfl⟩, q⟩ hz2
    | list h1 h2 h3 h4 =>
      refine repr_of_reads' (Reads.list h1 h2 h3 h4) hs1 (fun y => by rw [hs2] at y; cases y) hg
        (by omega) (fun _ _ e => e) (fun h' u tk hk => ?_) hz2
      exact ⟨.str _, H, I.kept hk, ⟨_, rfl⟩, q⟩
    | tuple h1 h2 h3 h4 =>
      refine repr_of_reads' (Reads.tuple h1 h2 h3 h4) hs1 (fun y => by rw [hs2] at y; cases y) hg
        (by omega) (fun _ _ e => e) (fun h' u tk hk => ?_) hz2
      exact ⟨.str _, H, I.kept hk, ⟨_, rfl⟩, q⟩
    | dict h1 h2 h3 h4 h5 => simp only [PyData.hasDict] at hs2; cases hs2
end G
namespace G
open PySem PySem.Spec PyProof.Rows L2

/-! ### heaps: what is kept -/
/-- x is not yet tracked -/
structure Fr (H : Hp) (x : Addr) : Prop where
  e : H x = none
theorem fr_ne {H : Hp} {a b : Addr} {o : HO} (h : H a = some o) (f : Fr H b) : a ≠ b := ne_of_none h f.e
/-- what nothing changes -/
def Fix : HO → Prop
  | .tup _ => True
  | .frz _ _ => True
  | _ => False
/-- all that H tracks is as it was, but perhaps what stands at ws -/
structure Kp (ws : List Addr) (H H' : Hp) : Prop where
  at_ : ∀ a u, H a = some u → a ∉ ws → H' a = some u
  fix : ∀ a u, H a = some u → Fix u → H' a = some u
  dom : ∀ a u, H a = some u → ∃ v, H' a = some v
section
variable {ws us : List Addr} {H H1 H2 : Hp} {p : Addr} {o u : HO}
theorem Kp.refl : Kp ws H H := ⟨fun _ _ h _ => h, fun _ _ h _ => h, fun _ u h => ⟨u, h⟩⟩
theorem Kp.trans (a : Kp ws H H1) (b : Kp ws H1 H2) : Kp ws H H2 :=
  ⟨fun c u h n => b.at_ c u (a.at_ c u h n) n, fun c u h f => b.fix c u (a.fix c u h f) f,
    fun c u h => let ⟨v, e⟩ := a.dom c u h; b.dom c v e⟩
theorem Kp.mono (a : Kp ws H H1) (h : ∀ b ∈ ws, b ∈ us) : Kp us H H1 :=
  ⟨fun c u e n => a.at_ c u e fun q => n (h c q), a.fix, a.dom⟩
theorem Kp.wide (a : Kp [] H H1) : Kp ws H H1 := a.mono fun b h => (nomatch h)
theorem Kp.free (a : Kp ws H H1) (f : Fr H1 p) : Fr H p := by
  have h := f.e
  constructor
  cases q : H p with
  | none => rfl
  | some u =>
    obtain ⟨v, e⟩ := a.dom p u q
    rw [h] at e
    cases e
theorem Kp.new (f : Fr H p) : Kp ws H (upd H p o) := by
  have h := f.e
  have k : ∀ a u, H a = some u → upd H p o a = some u := fun a u e => by
    rw [upd_ne (ne_of_none e h)]
    exact e
  exact ⟨fun a u e _ => k a u e, fun a u e _ => k a u e, fun a u e => ⟨u, k a u e⟩⟩
/-- what H does not know may be written -/
theorem Kp.upd (a : Kp ws H H1) (f : Fr H p) : Kp ws H (upd H1 p o) := by
  have h := f.e
  have k : ∀ b u, H b = some u → L2.upd H1 p o b = H1 b := fun b u e => upd_ne (ne_of_none e h)
  exact ⟨fun b u e n => (k b u e).trans (a.at_ b u e n), fun b u e f => (k b u e).trans (a.fix b u e f),
    fun b u e => let ⟨v, q⟩ := a.dom b u e; ⟨v, (k b u e).trans q⟩⟩
theorem Kp.mut (h : H p = some u) (nf : ¬ Fix u) (hp : p ∈ ws) : Kp ws H (L2.upd H p o) := by
  refine ⟨fun a v e n => ?_, fun a v e f => ?_, fun a v e => ?_⟩
  · rw [upd_ne (fun (q : a = p) => n (by rw [q]; exact hp))]
    exact e
  · have q : a ≠ p := by
      intro q
      subst q
      rw [h] at e
      cases e
      exact nf f
    rw [upd_ne q]
    exact e
  · by_cases q : a = p
    · exact ⟨o, by rw [q, upd_same]⟩
    · exact ⟨v, by rw [upd_ne q]; exact e⟩
theorem Kp.upm {ys : List V} (a : Kp ws H H1) (h : H1 p = some (.lst ys)) (hp : p ∈ ws) :
    Kp ws H (L2.upd H1 p o) := a.trans (Kp.mut h (fun z => z) hp)
/-- what H does not know need not be named -/
theorem Kp.drop (a : Kp (p :: ws) H H1) (f : Fr H p) : Kp ws H H1 :=
  have h := f.e
  ⟨fun b u e n => a.at_ b u e (fun q => (List.mem_cons.mp q).elim (fun z => by
    rw [z, h] at e
    cases e) n), a.fix, a.dom⟩
theorem Kp.dropAll (a : Kp us H H1) (h : ∀ b ∈ us, b ∈ ws ∨ Fr H b) : Kp ws H H1 :=
  ⟨fun b u e n => a.at_ b u e (fun q => (h b q).elim n (fun z => by
    rw [z.e] at e
    cases e)), a.fix, a.dom⟩
theorem Kp.seqL {K : PySem.W.Frag} {l : Addr} {xs : List V} (a : Kp ws H H1) (n : l ∉ ws)
    (h : SqL K H l xs) : SqL K H1 l xs := by
  rcases h with (h | ⟨o, h⟩) | h
  · exact .inl (.inl (a.at_ _ _ h n))
  · exact .inl (.inr ⟨o, a.fix _ _ h trivial⟩)
  · exact .inr h
theorem Kp.seqT {K : PySem.W.Frag} {l : Addr} {xs : List V} (a : Kp ws H H1)
    (h : SqT K H l xs) : SqT K H1 l xs := by
  rcases h with (h | ⟨o, h⟩) | h
  · exact .inl (.inl (a.fix _ _ h trivial))
  · exact .inl (.inr ⟨o, a.fix _ _ h trivial⟩)
  · exact .inr h
end
mutual
/-- data that nothing changes: no list, no dict -/
def imm : PyData → Bool
  | .none => true
  | .bool _ => true
  | .int _ => true
  | .str _ => true
  | .tuple xs => imms xs
  | .list _ => false
  | .dict _ => false
def imms : List PyData → Bool
  | [] => true
  | x :: xs => imm x && imms xs
end
section
variable {K : PySem.W.Frag} {ws : List Addr} {H H1 : Hp}
mutual
theorem dp_imm (k : Kp ws H H1) : ∀ (d : PyData) (v : V), imm d = true → Dp K H v d → Dp K H1 v d
  | .none, _, _, h => by cases h; exact .non
  | .bool b, _, _, h => by cases h; exact .bl b
  | .int i, _, _, h => by cases h; exact .int i
  | .str x, _, _, h => by cases h; exact .str x
  | .tuple ds, _, hi, h => by
    cases h with
    | tup hs ha => exact .tup (k.seqT hs) (dpa_imm k ds _ (by simpa only [G.imm] using hi) ha)
  | .list _, _, hi, _ => by simp only [G.imm] at hi; cases hi
  | .dict _, _, hi, _ => by simp only [G.imm] at hi; cases hi
theorem dpa_imm (k : Kp ws H H1) : ∀ (ds : List PyData) (vs : List V), imms ds = true →
    DpAll K H vs ds → DpAll K H1 vs ds
  | [], _, _, h => by cases h; exact .nil
  | d :: ds, _, hi, h => by
    simp only [imms, Bool.and_eq_true] at hi
    cases h with
    | cons h1 h2 => exact .cons (dp_imm k d _ hi.1 h1) (dpa_imm k ds _ hi.2 h2)
end
theorem dpa_len : ∀ {ds : List PyData} {vs : List V}, DpAll K H vs ds → vs.length = ds.length
  | [], _, h => by cases h; rfl
  | _ :: ds, _, h => by
    cases h with
    | cons _ h2 => rw [List.length_cons, List.length_cons, dpa_len h2]
theorem dpa_app : ∀ {ds es : List PyData} {vs ys : List V}, DpAll K H vs ds → DpAll K H ys es →
    DpAll K H (vs ++ ys) (ds ++ es)
  | [], _, _, _, h, g => by cases h; exact g
  | _ :: _, _, _, _, h, g => by
    cases h with
    | cons h1 h2 => exact .cons h1 (dpa_app h2 g)
theorem dpa_get : ∀ {ds : List PyData} {vs : List V} {i : Nat} {d : PyData}, DpAll K H vs ds →
    ds[i]? = some d → ∃ v, vs[i]? = some v ∧ Dp K H v d
  | [], _, _, _, _, e => by simp at e
  | _ :: _, _, 0, _, h, e => by
    cases h with
    | cons h1 h2 =>
      simp at e
      subst e
      exact ⟨_, rfl, h1⟩
  | _ :: _, _, i + 1, _, h, e => by
    cases h with
    | cons h1 h2 =>
      obtain ⟨v, q, r⟩ := dpa_get (i := i) h2 (by simpa using e)
      exact ⟨v, by simpa using q, r⟩
theorem dpa_getV : ∀ {ds : List PyData} {vs : List V} {i : Nat} {v : V}, DpAll K H vs ds →
    vs[i]? = some v → ∃ d, ds[i]? = some d ∧ Dp K H v d
  | [], _, _, _, h, e => by cases h; simp at e
  | _ :: _, _, 0, _, h, e => by
    cases h with
    | cons h1 h2 =>
      simp at e
      subst e
      exact ⟨_, rfl, h1⟩
  | _ :: _, _, i + 1, _, h, e => by
    cases h with
    | cons h1 h2 =>
      obtain ⟨d, q, r⟩ := dpa_getV (i := i) h2 (by simpa using e)
      exact ⟨d, by simpa using q, r⟩
theorem dpa_set : ∀ {ds : List PyData} {vs : List V} {i : Nat} {v : V} {d : PyData},
    DpAll K H vs ds → Dp K H v d → DpAll K H (vs.set i v) (ds.set i d)
  | [], _, _, _, _, h, _ => by cases h; exact .nil
  | _ :: _, _, 0, _, _, h, g => by
    cases h with
    | cons h1 h2 => exact .cons g h2
  | _ :: _, _, i + 1, _, _, h, g => by
    cases h with
    | cons h1 h2 => exact .cons h1 (dpa_set h2 g)
theorem dpa_take : ∀ {ds : List PyData} {vs : List V} (i : Nat),
    DpAll K H vs ds → DpAll K H (vs.take i) (ds.take i)
  | [], _, _, h => by cases h; simp; exact .nil
  | _ :: _, _, 0, h => by simp; exact .nil
  | _ :: _, _, i + 1, h => by
    cases h with
    | cons h1 h2 => exact .cons h1 (dpa_take i h2)
theorem dpa_drop : ∀ {ds : List PyData} {vs : List V} (i : Nat),
    DpAll K H vs ds → DpAll K H (vs.drop i) (ds.drop i)
  | [], _, _, h => by cases h; simp; exact .nil
  | _ :: _, _, 0, h => by simpa using h
  | _ :: _, _, i + 1, h => by
    cases h with
    | cons h1 h2 => exact dpa_drop i h2
theorem dpa_one {v : V} {d : PyData} (h : Dp K H v d) : DpAll K H [v] [d] := .cons h .nil
/-- a tuple of two ints -/
abbrev d2 (p : Int × Int) : PyData := .tuple [.int p.1, .int p.2]
theorem dp_pair {v : V} {p : Int × Int} (h : Dp K H v (d2 p)) :
    ∃ a, v = .ref a ∧ SqT K H a [.int p.1, .int p.2] := by
  cases h with
  | tup hs ha =>
    cases ha with
    | cons h1 h2 =>
      cases h2 with
      | cons h3 h4 =>
        cases h4
        cases h1
        cases h3
        exact ⟨_, rfl, hs⟩
theorem dp_mk2 {a : Addr} {m n : Int} (h : SqT K H a [.int m, .int n]) :
    Dp K H (.ref a) (d2 (m, n)) := .tup h (.cons (.int m) (.cons (.int n) .nil))
theorem imms_d2 : ∀ l : List (Int × Int), imms (l.map d2) = true
  | [] => rfl
  | _ :: l => by
    simp only [List.map_cons, imms, G.imm, imms_d2 l]
    rfl
/-- a list of our own, of data that nothing changes -/
def LD (K : PySem.W.Frag) (H : Hp) (l : Addr) (ds : List PyData) : Prop :=
  ∃ vs, H l = some (.lst vs) ∧ DpAll K H vs ds
theorem LD.dp {l : Addr} {ds : List PyData} (h : LD K H l ds) : Dp K H (.ref l) (.list ds) := by
  obtain ⟨vs, e, q⟩ := h
  exact .lst (SqL.of e) q
theorem LD.kp {l : Addr} {ds : List PyData} (h : LD K H l ds) (k : Kp ws H H1) (hi : imms ds = true)
    (n : l ∉ ws) : LD K H1 l ds := by
  obtain ⟨vs, e, q⟩ := h
  exact ⟨vs, k.at_ _ _ e n, dpa_imm k _ _ hi q⟩
theorem LD.some {l : Addr} {ds : List PyData} (h : LD K H l ds) : H l ≠ none := by
  obtain ⟨vs, e, q⟩ := h
  rw [e]
  exact fun y => nomatch y
end
end G
namespace G
open PySem PySem.Spec PyProof.Rows L2

/-! ### one rule for several kinds of values -/
theorem orR {X : Cx} {f : Value → Value → Sem Value} {r r' : R2} (h : OpR X f r) (h' : OpR X f r') :
    OpR X f (fun x y H Q => r x y H Q ∨ r' x y H Q) := by
  intro pins s σ H x y v u Q I rx ry q
  cases q with
  | inl q => exact h pins s σ H x y v u Q I rx ry q
  | inr q => exact h' pins s σ H x y v u Q I rx ry q
theorem orC {X : Cx} {f : Value} {r r' : List V → Hp → VK → Prop} (h : CallR X f r)
    (h' : CallR X f r') : CallR X f (fun xs H Q => r xs H Q ∨ r' xs H Q) := by
  intro pins s σ H xs us Q I rx q
  cases q with
  | inl q => exact h pins s σ H xs us Q I rx q
  | inr q => exact h' pins s σ H xs us Q I rx q
def uAdd (K : PySem.W.Frag) : R2 := fun x y H Q => rI0 (fun i j => .int (i + j)) x y H Q ∨
  (∃ i j, x = .str i ∧ y = .str j ∧ i.length + j.length ≤ sizeLine ∧ Q (.str (i ++ j)) H) ∨
  rCat x y H Q ∨ rCatT K x y H Q
def uMul : R2 := fun x y H Q => rI CMul (fun i j => .int (i * j)) x y H Q ∨
  rI CMulW (fun i j => .int (i * j)) x y H Q ∨ rRep x y H Q
def uEq (K : PySem.W.Frag) : R2 := fun x y H Q => rEq x y H Q ∨ rEqD K x y H Q
def uNe (K : PySem.W.Frag) : R2 := fun x y H Q => rNe x y H Q ∨ rNeD K x y H Q
def uIx (K : PySem.W.Frag) : R2 := fun x y H Q => rIxL K x y H Q ∨ rIxT K x y H Q ∨ rIxS x y H Q
def uLen (K : PySem.W.Frag) : List V → Hp → VK → Prop := fun xs H Q =>
  (∃ p ys, xs = [.ref p] ∧ (SqL K H p ys ∨ SqT K H p ys) ∧ Q (.int ys.length) H) ∨
  (∃ z, xs = [.str z] ∧ z.length ≤ sizeLine ∧ Q (.int z.length) H)
section
variable {X : Cx}
theorem o_add : OpR X (binaryOp .Add) (uAdd X.K) := orR op_add (orR op_add_str (orR op_cat op_catT))
theorem o_mul : OpR X (binaryOp .Mult) uMul := orR op_mul (orR op_mulW op_rep)
theorem o_eq (hu : X.A.units + 64 < cLine) : OpR X (compareOp .Eq) (uEq X.K) := orR op_eq (op_eqD hu)
theorem o_ne (hu : X.A.units + 64 < cLine) : OpR X (compareOp .NotEq) (uNe X.K) := orR op_ne (op_neD hu)
theorem o_ix : IxR X (uIx X.K) := ix_list.or (ix_tup.or ix_str)
theorem c_len : CallR X (.builtin "len") (uLen X.K) := orC call_len_seq call_len_str
end

/-! ### readings from the front -/
section
variable {K : PySem.W.Frag} {σ : L2.St} {H : Hp} {Q : VK} {D : Ends} {t1 t2 : TS} {te ta tb tc : TE}
variable {i j : Nat} {v x y : V} {c u : TT} {tr : TA} {n m : Int} {b : Bool} {p : Addr}
variable {QB : Bool → Hp → Prop} {QA : List V → Hp → Prop} {xs : List V}
theorem i_seq (h : t1 { D with nx := t2 D } σ H) : tSeq t1 t2 D σ H := h
theorem i_next (h : D.nx σ H) : tNext D σ H := h
theorem i_set (h : te σ H fun x H1 => D.nx (σ.set i (some x)) H1) : tAsg te (gName i) D σ H := h
theorem i_asg {g : TG} (h : te σ H fun x H1 => g x σ H1 D.nx) : tAsg te g D σ H := h
theorem i_drop (h : te σ H fun _ H1 => D.nx σ H1) : tDrop te D σ H := h
theorem i_ret (h : te σ H D.rt) : tRet te D σ H := h
theorem i_retN (h : D.rt .non H) : tRetN D σ H := h
theorem i_brk (h : D.bk σ H) : tBreak D σ H := h
theorem i_cont (h : D.ct σ H) : tCont D σ H := h
theorem i_ifS (h : c σ H fun b H1 => if b = true then t1 D σ H1 else t2 D σ H1) : tIfS c t1 t2 D σ H := h
theorem i_aug {ti : TIp} (e : σ[i]? = some (some x))
    (h : te σ H fun y H1 => ti x y H1 fun z H2 => D.nx (σ.set i (some z)) H2) : tAug i te ti D σ H := ⟨x, e, h⟩
theorem i_ipI {f : Int → Int → Int} (h : Q (.int (f n m)) H) : ipI f (.int n) (.int m) H Q := ⟨n, m, rfl, rfl, h⟩
theorem i_par {i j : Nat} {tt : TA}
    (h : tt σ H fun vs H1 => ∃ v w, vs = [v, w] ∧ D.nx ((σ.set i (some v)).set j (some w)) H1) :
    tPar i j tt D σ H := h
theorem i_two {P : V → V → Prop} (h : P x y) : ∃ v w, [x, y] = [v, w] ∧ P v w := ⟨x, y, rfl, h⟩

theorem i_var (e : σ[i]? = some (some v)) (h : Q v H) : tVar i σ H Q := ⟨v, e, h⟩
theorem i_c (h : Q v H) : tC v σ H Q := h
theorem i_op {r : R2} (h : ta σ H fun x H1 => tb σ H1 fun y H2 => r x y H2 Q) : tOp r ta tb σ H Q := h
theorem i_un {r : V → Hp → VK → Prop} (h : ta σ H fun x H1 => r x H1 Q) : tUn r ta σ H Q := h
theorem i_I0 {g : Int → Int → V} (h : Q (g n m) H) : rI0 g (.int n) (.int m) H Q := ⟨n, m, rfl, rfl, h⟩
theorem i_I {g : Int → Int → V} {C : Int → Int → Prop} (hc : C n m) (h : Q (g n m) H) :
    rI C g (.int n) (.int m) H Q := ⟨n, m, rfl, rfl, hc, h⟩
theorem i_U {g : Int → V} (h : Q (g n) H) : rU g (.int n) H Q := ⟨n, rfl, h⟩
theorem i_addI (h : Q (.int (n + m)) H) : uAdd K (.int n) (.int m) H Q := .inl ⟨n, m, rfl, rfl, h⟩
theorem i_addS {z w : Str} (hz : z.length + w.length ≤ sizeLine) (h : Q (.str (z ++ w)) H) :
    uAdd K (.str z) (.str w) H Q := .inr (.inl ⟨z, w, rfl, rfl, hz, h⟩)
theorem i_mulI (hc : CMul n m) (h : Q (.int (n * m)) H) : uMul (.int n) (.int m) H Q :=
  .inl ⟨n, m, rfl, rfl, hc, h⟩
theorem i_mulW (hc : CMulW n m) (h : Q (.int (n * m)) H) : uMul (.int n) (.int m) H Q :=
  .inr (.inl ⟨n, m, rfl, rfl, hc, h⟩)
theorem i_eqI (h : Q (.bl (decide (n = m))) H) : uEq K (.int n) (.int m) H Q := by
  refine .inl ⟨rfl, ?_⟩
  have e : decide (V.int n = V.int m) = decide (n = m) := by
    rw [Bool.eq_iff_iff]
    simp
  rw [e]
  exact h
theorem i_neI (h : Q (.bl (!decide (n = m))) H) : uNe K (.int n) (.int m) H Q := by
  refine .inl ⟨rfl, ?_⟩
  have e : decide (V.int n = V.int m) = decide (n = m) := by
    rw [Bool.eq_iff_iff]
    simp
  rw [e]
  exact h
theorem i_eqS {z w : Str} (h : Q (.bl (decide (z = w))) H) : uEq K (.str z) (.str w) H Q := by
  refine .inl ⟨rfl, ?_⟩
  have e : decide (V.str z = V.str w) = decide (z = w) := by
    rw [Bool.eq_iff_iff]
    simp
  rw [e]
  exact h
theorem i_neS {z w : Str} (h : Q (.bl (!decide (z = w))) H) : uNe K (.str z) (.str w) H Q := by
  refine .inl ⟨rfl, ?_⟩
  have e : decide (V.str z = V.str w) = decide (z = w) := by
    rw [Bool.eq_iff_iff]
    simp
  rw [e]
  exact h
theorem i_eqD {d e : PyData} (hd : Dp K H x d) (he : Dp K H y e) (sd : SeqAt.shaped d = true)
    (se : SeqAt.shaped e = true) (h : Q (.bl (PyData.eqv d e)) H) : uEq K x y H Q :=
  .inr ⟨d, e, hd, he, sd, se, h⟩
theorem i_neD {d e : PyData} (hd : Dp K H x d) (he : Dp K H y e) (sd : SeqAt.shaped d = true)
    (se : SeqAt.shaped e = true) (h : Q (.bl (!PyData.eqv d e)) H) : uNe K x y H Q :=
  .inr ⟨d, e, hd, he, sd, se, h⟩
theorem i_ixL (hs : SqL K H p xs) (ha : atI xs n = some v) (h : Q v H) :
    uIx K (.ref p) (.int n) H Q := .inl ⟨p, xs, n, v, rfl, rfl, hs, ha, h⟩
theorem i_ixT (hs : SqT K H p xs) (ha : atI xs n = some v) (h : Q v H) :
    uIx K (.ref p) (.int n) H Q := .inr (.inl ⟨p, xs, n, v, rfl, rfl, hs, ha, h⟩)
theorem i_lenL (hs : SqL K H p xs) (h : Q (.int xs.length) H) : uLen K [.ref p] H Q :=
  .inl ⟨p, xs, rfl, .inl hs, h⟩
theorem i_lenT (hs : SqT K H p xs) (h : Q (.int xs.length) H) : uLen K [.ref p] H Q :=
  .inl ⟨p, xs, rfl, .inr hs, h⟩
theorem i_lenS {z : Str} (hz : z.length ≤ sizeLine) (h : Q (.int z.length) H) : uLen K [.str z] H Q :=
  .inr ⟨z, rfl, hz, h⟩

theorem i_test (h : te σ H fun x H1 => ∃ k, x = .bl k ∧ QB k H1) : tTest te σ H QB := h
theorem i_B (h : te σ H fun x H1 => ∃ k, x = .bl k ∧ QB k H1) : tB te σ H QB := h
theorem i_bl {P : Bool → Prop} (h : P b) : ∃ k, V.bl b = .bl k ∧ P k := ⟨b, rfl, h⟩
theorem i_and (h : c σ H fun b H1 => if b = true then u σ H1 QB else QB false H1) : tAnd c u σ H QB := h
theorem i_or (h : c σ H fun b H1 => if b = true then QB true H1 else u σ H1 QB) : tOr c u σ H QB := h
theorem i_not (h : c σ H fun b H1 => QB (!b) H1) : tNot c σ H QB := h
theorem i_andV (h : ta σ H fun x H1 => ∃ k, x = .bl k ∧ if k = true then tb σ H1 Q else Q (.bl false) H1) :
    tAndV ta tb σ H Q := h
theorem i_orV (h : ta σ H fun x H1 => ∃ k, x = .bl k ∧ if k = true then Q (.bl true) H1 else tb σ H1 Q) :
    tOrV ta tb σ H Q := h
theorem i_notV (h : ta σ H fun x H1 => ∃ k, x = .bl k ∧ Q (.bl (!k)) H1) : tNotV ta σ H Q := h
theorem i_ifE (h : c σ H fun b H1 => if b = true then ta σ H1 Q else tb σ H1 Q) : tIf c ta tb σ H Q := h
theorem i_chain {r r' : R2} (h : ta σ H fun x H1 => tb σ H1 fun y H2 => r x y H2 fun z H3 =>
    ∃ k, z = .bl k ∧ if k = true then tc σ H3 fun w H4 => r' y w H4 Q else Q (.bl false) H3) :
    tChain r r' ta tb tc σ H Q := h
theorem i_nil (h : QA [] H) : tNil σ H QA := h
theorem i_cons (h : te σ H fun x H1 => tr σ H1 fun xs H2 => QA (x :: xs) H2) : tCons te tr σ H QA := h
/-- for any new place -/
def New (H : Hp) (P : Addr → Prop) : Prop := ∀ p, H p = none → P p
theorem i_new {P : Addr → Prop} (h : ∀ p, Fr H p → P p) : New H P := fun p e => h p ⟨e⟩
theorem i_tup (h : tr σ H fun xs H1 => xs.length ≤ sizeLine ∧ New H1 fun p => Q (.ref p) (upd H1 p (.tup xs))) :
    tTup tr σ H Q := h
theorem i_lst (h : tr σ H fun xs H1 => xs.length ≤ sizeLine ∧ New H1 fun p => Q (.ref p) (upd H1 p (.lst xs))) :
    tLst tr σ H Q := h
theorem i_few {P : Prop} {n : Nat} (hn : n ≤ 1000) (h : P) : n ≤ sizeLine ∧ P :=
  ⟨Nat.le_trans hn (by decide), h⟩
theorem i_CB {r : List V → Hp → VK → Prop} (h : tr σ H fun vs H1 => r vs H1 Q) : tCB r tr σ H Q := h
theorem i_call {sp : Sp} {dvs : List V} {E : XK} (h : tr σ H fun vs H1 => sp (vs ++ dvs) H1 Q E) :
    tCall sp dvs E tr σ H Q := h
theorem i_BM {T : String} {r : V → List V → Hp → VK → Prop}
    (h : te σ H fun x H1 => tyV K T x H1 ∧ tr σ H1 fun xs H2 => r x xs H2 Q) : tBM K T r te tr σ H Q := h
theorem i_BM0 {T : String} {r : V → List V → Hp → VK → Prop}
    (h : te σ H fun x H1 => tyV K T x H1 ∧ r x [] H1 Q) : tBM0 K T r te σ H Q := h
theorem i_tyL {P : Prop} (hs : SqL K H p xs) (h : P) : tyV K "list" (.ref p) H ∧ P :=
  ⟨.inl ⟨rfl, xs, hs⟩, h⟩
theorem i_app (hs : H p = some (.lst xs)) (hz : xs.length < sizeLine)
    (h : Q .non (upd H p (.lst (xs ++ [y])))) : rAppend (.ref p) [y] H Q := ⟨p, xs, y, rfl, rfl, hs, hz, h⟩
theorem i_repr {d : PyData} (hd : Dp K H x d) (hs : shw d = true) (hdp : d.depth ≤ 60)
    (hz : cw d ≤ sizeLine) (h : Q (.str d.shown) H) : rRepr K [x] H Q := ⟨x, d, rfl, hd, hs, hdp, hz, h⟩
theorem i_setL {S : Hp → Prop} {k : Nat} (hs : H p = some (.lst xs)) (hj : ixN xs.length n = some k)
    (h : S (upd H p (.lst (xs.set k v)))) : rSetL (.ref p) (.int n) v H S := ⟨p, xs, n, k, rfl, rfl, hs, hj, h⟩
theorem i_iList {R : It → Hp → Prop} (h : te σ H fun x H1 => ∃ a, x = .ref a ∧ (∃ xs, SqL K H1 a xs) ∧ R (Itl K a) H1) :
    iList K te σ H R := h
theorem i_For {wi : TI} {g : TG} (h : wi σ H fun J H1 => ∃ W : Nat → Nat → L2.St → Hp → Prop, (∃ m, W 0 m σ H1) ∧ ∀ i m σ H, W i m σ H →
    (J.stop i H ∧ D.nx σ H) ∨ (J.go i H ∧ ∃ Nx : L2.St → Hp → Prop, (∀ σ' H', Nx σ' H' → ∃ m', m' < m ∧ W (i + 1) m' σ' H') ∧
      ∀ x H', J.yld i H x H' → g x σ H' fun σ2 H2 => t1 { D with nx := Nx, ct := Nx, bk := D.nx } σ2 H2)) :
    tFor wi g t1 D σ H := h
theorem i_iteT {A B : Prop} (h : A) : if true = true then A else B := iteT h
theorem i_iteF {A B : Prop} (h : B) : if false = true then A else B := iteF h
theorem i_ntT {A B : Prop} (h : B) : if (!true) = true then A else B := iteF h
theorem i_ntF {A B : Prop} (h : A) : if (!false) = true then A else B := iteT h
theorem i_dec {p A B : Prop} [Decidable p] (h1 : p → A) (h2 : ¬ p → B) :
    if decide p = true then A else B := by
  by_cases h : p
  · rw [decide_eq_true h]
    exact iteT (h1 h)
  · rw [decide_eq_false h]
    exact iteF (h2 h)
theorem i_decN {p A B : Prop} [Decidable p] (h1 : ¬ p → A) (h2 : p → B) :
    if (!decide p) = true then A else B := by
  by_cases h : p
  · rw [decide_eq_true h]
    exact iteF (h2 h)
  · rw [decide_eq_false h]
    exact iteT (h1 h)
theorem i_boo {b : Bool} {A B : Prop} (h1 : b = true → A) (h2 : b = false → B) :
    if b = true then A else B := by
  cases b
  · exact iteF (h2 rfl)
  · exact iteT (h1 rfl)
end
section
variable {P : Program} {w : World} {K : PySem.W.Frag} {mg : Str → Option Value} {base : Heap}
/-- a def of the text, by its body -/
theorem okG {x qual : Str} {st : Stmt} {f : Addr} {fd : FuncData} {N ps : List Str} {k : Nat} {sp : Sp}
    (F : L2.Fun K x qual st f fd) (S : FnScope N ps (defScope st))
    (len : ∀ vs H Q E, sp vs H Q E → vs.length = ps.length)
    (hb : ∀ (cdv : Value) (A : Around) (outer : List Env) (s : Shared) (H : Hp) (vs : List V)
      (Q : VK) (E : XK), RoomG k (A.deeper (envOfC qual (defScope st) s.heap.objs.size f cdv)) →
      sp vs H Q E →
      ∃ t, PSs (cxOf (L2.CX P w) P w K mg base N qual (defScope st) f cdv A outer s H E) (defBody st) t ∧
        t { nx := fun _ H' => Q .non H', rt := Q } (start N vs) H) :
    FnG P w K mg base (k + 1) f fd ps sp := by
  obtain ⟨oc, od, kV, doc, pm, an, cdv, ct, osl, rfl, lk, hcd⟩ := F.ex
  exact FnG.body lk hcd S len fun A outer s H vs Q E z h => hb cdv A outer s H vs Q E z h
end
end G
namespace G
open PySem PySem.Spec PyProof.Rows L2
section
variable {K : PySem.W.Frag} {σ : L2.St} {H : Hp} {Q : VK} {D : Ends} {tb : TS} {te : TE} {g : TG}
variable {a p q l : Addr} {xs vs : List V} {v x y : V} {ds : List PyData} {S : L2.St → Hp → Prop}
theorem st_1 {N : List Str} {a : V} : L2.start N [a] = some a :: List.replicate (N.length - 1) none := rfl
theorem st_2 {N : List Str} {a b : V} : L2.start N [a, b] = some a :: some b :: List.replicate (N.length - 2) none := rfl
theorem st_3 {N : List Str} {a b c : V} :
    L2.start N [a, b, c] = some a :: some b :: some c :: List.replicate (N.length - 3) none := rfl
theorem st_4 {N : List Str} {a b c d : V} : L2.start N [a, b, c, d] =
    some a :: some b :: some c :: some d :: List.replicate (N.length - 4) none := rfl
theorem st_5 {N : List Str} {a b c d e : V} : L2.start N [a, b, c, d, e] =
    some a :: some b :: some c :: some d :: some e :: List.replicate (N.length - 5) none := rfl
theorem st_6 {N : List Str} {a b c d e f : V} : L2.start N [a, b, c, d, e, f] =
    some a :: some b :: some c :: some d :: some e :: some f :: List.replicate (N.length - 6) none := rfl
theorem i_gTup {n : Nat} {t : TGs} (hs : SqT K H p xs) (hl : xs.length = n) (h : t xs σ H S) :
    gTup K n t (.ref p) σ H S := ⟨p, xs, rfl, hs, hl, h⟩
theorem i_gCons {t : TG} {u : TGs} (h : t v σ H fun σ' H' => u xs σ' H' S) :
    gCons t u (v :: xs) σ H S := ⟨v, xs, rfl, h⟩
theorem i_gNil (h : S σ H) : gNil [] σ H S := ⟨rfl, h⟩
theorem i_gName {i : Nat} (h : S (σ.set i (some v)) H) : gName i v σ H S := h
theorem i_gSub {to ti : TE} {t : TSet} (h : to σ H fun o H1 => ti σ H1 fun i H2 => t o i v H2 fun H3 => S σ H3) :
    gSub to ti t v σ H S := h
/-- a for over x, a list -/
def ForL (K : PySem.W.Frag) (x : V) (g : TG) (tb : TS) (D : Ends) (σ : L2.St) (H : Hp) : Prop :=
  ∃ a, x = .ref a ∧ (∃ ys, SqL K H a ys) ∧ ∃ W : Nat → Nat → L2.St → Hp → Prop,
    (∃ m, W 0 m σ H) ∧ ∀ i m σ H, W i m σ H → ((Itl K a).stop i H ∧ D.nx σ H) ∨
      ((Itl K a).go i H ∧ ∃ Nx : L2.St → Hp → Prop,
        (∀ σ' H', Nx σ' H' → ∃ m', m' < m ∧ W (i + 1) m' σ' H') ∧
        ∀ x H', (Itl K a).yld i H x H' → g x σ H' fun σ2 H2 =>
          tb { D with nx := Nx, ct := Nx, bk := D.nx } σ2 H2)
theorem i_forL (h : te σ H fun x H1 => ForL K x g tb D σ H1) : tFor (iList K te) g tb D σ H := h
theorem i_each (hs : SqL K H a xs) (Pv : Nat → L2.St → Hp → Prop) (h0 : Pv 0 σ H)
    (hl : ∀ i σ H, i ≤ xs.length → Pv i σ H → SqL K H a xs)
    (st : ∀ i x σ H, xs[i]? = some x → Pv i σ H → g x σ H fun σ2 H2 =>
      tb { D with nx := Pv (i + 1), ct := Pv (i + 1), bk := D.nx } σ2 H2)
    (hd : ∀ σ H, Pv xs.length σ H → D.nx σ H) : ForL K (.ref a) g tb D σ H :=
  ⟨a, rfl, ⟨_, hs⟩, for_list Pv h0 hl st hd⟩
/-- a for over range(n) -/
def ForR (vs : List V) (g : TG) (tb : TS) (D : Ends) (σ : L2.St) (H : Hp) : Prop :=
  ∃ j : Int, vs = [.int j] ∧ -(2 ^ 62) ≤ j ∧ j < 2 ^ 62 ∧
    ∃ W : Nat → Nat → L2.St → Hp → Prop, (∃ m, W 0 m σ H) ∧ ∀ i m σ H, W i m σ H →
      ((Itr 0 j.toNat).stop i H ∧ D.nx σ H) ∨ ((Itr 0 j.toNat).go i H ∧ ∃ Nx : L2.St → Hp → Prop,
        (∀ σ' H', Nx σ' H' → ∃ m', m' < m ∧ W (i + 1) m' σ' H') ∧
        ∀ x H', (Itr 0 j.toNat).yld i H x H' → g x σ H' fun σ2 H2 =>
          tb { D with nx := Nx, ct := Nx, bk := D.nx } σ2 H2)
theorem i_forR {ta : TA} (h : ta σ H fun vs H1 => ForR vs g tb D σ H1) : tFor (iRng1 ta) g tb D σ H := h
theorem i_turns {n : Int} (b1 : 0 ≤ n) (b2 : n < 2 ^ 62) (Pv : Nat → L2.St → Hp → Prop) (h0 : Pv 0 σ H)
    (st : ∀ (i : Nat) σ H, (i : Int) < n → Pv i σ H → g (.int i) σ H fun σ2 H2 =>
      tb { D with nx := Pv (i + 1), ct := Pv (i + 1), bk := D.nx } σ2 H2)
    (hd : ∀ σ H, Pv n.toNat σ H → D.nx σ H) : ForR [.int n] g tb D σ H := by
  refine ⟨n, rfl, by omega, b2, for_range Pv h0 (fun i σ H hi q => ?_) hd⟩
  have e : V.int (0 + (i : Int)) = V.int i := by rw [Int.zero_add]
  rw [e]
  exact st i σ H (by omega) q

theorem canLay_pairs : ∀ l : List (Int × Int), PyData.canLayAll0 (l.map d2) = true
  | [] => rfl
  | p :: l => by
    simp only [List.map_cons, PyData.canLayAll0, PyData.canLay0, canLay_pairs l]
    rfl
theorem depth_pairs : ∀ l : List (Int × Int), PyData.depthAll (l.map d2) ≤ 1
  | [] => Nat.zero_le _
  | p :: l => by
    simp only [List.map_cons, PyData.depthAll, PyData.depth]
    have q := depth_pairs l
    omega
theorem shaped_of {d : PyData} (h : d.canLay0 = true) (hd : d.depth ≤ 64) : SeqAt.shaped d = true := by
  unfold SeqAt.shaped
  rw [h, decide_eq_true hd]
  rfl
theorem shaped_pairs (l : List (Int × Int)) : SeqAt.shaped (.list (l.map d2)) = true := by
  refine shaped_of ?_ ?_
  · simp only [PyData.canLay0]
    exact canLay_pairs l
  · simp only [PyData.depth]
    have q := depth_pairs l
    omega
theorem shaped_nil : SeqAt.shaped (.list []) = true := by decide +kernel
theorem eqv_nil (ds : List PyData) : PyData.eqv (.list ds) (.list []) = ds.isEmpty := by
  cases ds <;> simp [PyData.eqv, PyData.eqvAll]
/-- xs == [], xs != [] -/
theorem eq_nil (ld : LD K H l ds) (hi : imms ds = true) (hs : SeqAt.shaped (.list ds) = true)
    (hq : Fr H q) (h : Q (.bl ds.isEmpty) (upd H q (.lst []))) :
    uEq K (.ref l) (.ref q) (upd H q (.lst [])) Q := by
  refine i_eqD (LD.dp (ld.kp (Kp.new hq) hi List.not_mem_nil)) (.lst (SqL.of upd_same) .nil) hs
    shaped_nil ?_
  rw [eqv_nil]
  exact h
theorem ne_nil (ld : LD K H l ds) (hi : imms ds = true) (hs : SeqAt.shaped (.list ds) = true)
    (hq : Fr H q) (h : Q (.bl (!ds.isEmpty)) (upd H q (.lst []))) :
    uNe K (.ref l) (.ref q) (upd H q (.lst [])) Q := by
  refine i_neD (LD.dp (ld.kp (Kp.new hq) hi List.not_mem_nil)) (.lst (SqL.of upd_same) .nil) hs
    shaped_nil ?_
  rw [eqv_nil]
  exact h
theorem dpa_last {d : PyData} : ∀ {ds : List PyData} {vs : List V}, DpAll K H vs (ds ++ [d]) →
    ∃ us x, vs = us ++ [x] ∧ DpAll K H us ds ∧ Dp K H x d
  | [], _, h => by
    cases h with
    | cons h1 h2 =>
      cases h2
      exact ⟨[], _, rfl, .nil, h1⟩
  | _ :: ds, _, h => by
    cases h with
    | cons h1 h2 =>
      obtain ⟨us, x, e, q1, q2⟩ := dpa_last h2
      exact ⟨_ :: us, x, by rw [e]; rfl, .cons h1 q1, q2⟩
theorem list_last {α : Type} {l : List α} (h : l ≠ []) : ∃ f q, l = f ++ [q] :=
  ⟨l.dropLast, l.getLast h, (List.dropLast_concat_getLast h).symm⟩
theorem ix_last (n : Nat) : ixN (n + 1) (-1) = some n := by
  unfold ixN
  rw [if_neg (by decide), if_pos (by omega)]
  congr 1
  omega
theorem set_last {α : Type} (l : List α) (a b : α) : (l ++ [a]).set l.length b = l ++ [b] := by
  rw [List.set_append_right _ _ (Nat.le_refl _)]
  simp
theorem upd_nn {o : HO} {u : Option HO} {b : Addr} (h : b ≠ a) (k : H b = u) : upd H a o b = u :=
  (upd_ne h).trans k
/-- what is not tracked then was not tracked before -/
def Old (H H' : Hp) : Prop := ∀ a, H' a = none → H a = none
theorem Old.refl : Old H H := fun _ h => h
theorem old_upd {H1 : Hp} {o : HO} (h : Old H H1) : Old H (upd H1 p o) := fun x e => by
  refine h x ?_
  by_cases z : x = p
  · rw [z, upd_same] at e
    cases e
  · rw [upd_ne z] at e
    exact e
theorem old_kp {H1 H2 : Hp} {ws : List Addr} (k : Kp ws H1 H2) (h : Old H H1) : Old H H2 :=
  fun x e => h x (k.free ⟨e⟩).e
theorem fr_of {H1 : Hp} {x : Addr} (h : Fr H1 x) (o : Old H H1) : Fr H x := ⟨o x h.e⟩
theorem small_sz {n : Nat} (h : n ≤ 1000000) : n < sizeLine := Nat.lt_of_le_of_lt h (by decide)
theorem sqT_new {o : HO} (h : SqT K H a xs) (hq : Fr H q) : SqT K (upd H q o) a xs :=
  (Kp.new (ws := []) hq).seqT h
theorem sqT_lst {o : HO} {ys : List V} (h : SqT K H a xs) (hq : H q = some (.lst ys)) :
    SqT K (upd H q o) a xs :=
  (Kp.mut (ws := [q]) hq (fun z => z) (List.mem_singleton.mpr rfl)).seqT h
theorem i_boN {b : Bool} {A B : Prop} (h1 : b = false → A) (h2 : b = true → B) :
    if (!b) = true then A else B := by
  cases b
  · exact iteT (h1 rfl)
  · exact iteF (h2 rfl)
theorem map_get {α β : Type} {l : List α} {f : α → β} {i : Nat} {d : β} (h : (l.map f)[i]? = some d) :
    ∃ p, l[i]? = some p ∧ d = f p := by
  rw [List.getElem?_map] at h
  cases e : l[i]? with
  | none => rw [e] at h; cases h
  | some p => rw [e] at h; cases h; exact ⟨p, rfl, rfl⟩
end
end G
namespace G
open PySem PySem.Spec PyProof.Rows L2
section
variable {K : PySem.W.Frag} {σ : L2.St} {H : Hp} {Q : VK} {n m : Int} {a p : Addr} {xs : List V} {v : V}
def rAbs : List V → Hp → VK → Prop := fun xs H Q => ∃ i, xs = [.int i] ∧ Q (.int (if i < 0 then -i else i)) H
def rMax2 : List V → Hp → VK → Prop := fun xs H Q => ∃ i j, xs = [.int i, .int j] ∧ Q (.int (if j > i then j else i)) H
def rMin2 : List V → Hp → VK → Prop := fun xs H Q => ∃ i j, xs = [.int i, .int j] ∧ Q (.int (if j < i then j else i)) H
def rDm : List V → Hp → VK → Prop := fun xs H Q => ∃ i j, xs = [.int i, .int j] ∧ CDivP i j ∧
  ∀ p, H p = none → Q (.ref p) (upd H p (.tup [.int (i / j), .int (i % j)]))
def rListOf (K : PySem.W.Frag) : List V → Hp → VK → Prop := fun xs H Q => ∃ p ys, xs = [.ref p] ∧
  (SqL K H p ys ∨ SqT K H p ys) ∧ ∀ l, H l = none → Q (.ref l) (upd H l (.lst ys))
def rPow : R2 := rI CPow fun i j => .int (i ^ j.toNat)
def uMod : R2 := rI (fun _ j => 0 < j) fun i j => .int (i % j)
def uDiv : R2 := rI CDivW fun i j => .int (i / j)
theorem c_abs {X : Cx} : CallR X (.builtin "abs") rAbs := call_abs
theorem c_max2 {X : Cx} (hc : X.calm = true) : CallR X (.builtin "max") rMax2 := call_max2 hc
theorem c_min2 {X : Cx} (hc : X.calm = true) : CallR X (.builtin "min") rMin2 := call_min2 hc
theorem c_dm {X : Cx} : CallR X (.builtin "divmod") rDm := call_divmodW
theorem c_list {X : Cx} : CallR X (.type "list") (rListOf X.K) := call_list_of
theorem o_pow {X : Cx} : OpR X (binaryOp .Pow) rPow := op_pow
theorem o_mod {X : Cx} : OpR X (binaryOp .Mod) uMod := op_mod
theorem o_div {X : Cx} : OpR X (binaryOp .FloorDiv) uDiv := op_fdivW
theorem i_abs (h : Q (.int (n.natAbs : Int)) H) : rAbs [.int n] H Q := by
  refine ⟨n, rfl, ?_⟩
  have e : (if n < 0 then -n else n) = (n.natAbs : Int) := by split <;> omega
  rw [e]
  exact h
theorem i_max2 (h : Q (.int (max n m)) H) : rMax2 [.int n, .int m] H Q := by
  refine ⟨n, m, rfl, ?_⟩
  have e : (if m > n then m else n) = max n m := by
    rw [Int.max_def]
    split <;> split <;> omega
  rw [e]
  exact h
theorem i_min2 (h : Q (.int (min n m)) H) : rMin2 [.int n, .int m] H Q := by
  refine ⟨n, m, rfl, ?_⟩
  have e : (if m < n then m else n) = min n m := by
    rw [Int.min_def]
    split <;> split <;> omega
  rw [e]
  exact h
theorem i_mod (hc : 0 < m) (h : Q (.int (n % m)) H) : uMod (.int n) (.int m) H Q := ⟨n, m, rfl, rfl, hc, h⟩
theorem i_listL (hs : SqL K H p xs) (h : New H fun l => Q (.ref l) (upd H l (.lst xs))) :
    rListOf K [.ref p] H Q := ⟨p, xs, rfl, .inl hs, h⟩
theorem i_listT (hs : SqT K H p xs) (h : New H fun l => Q (.ref l) (upd H l (.lst xs))) :
    rListOf K [.ref p] H Q := ⟨p, xs, rfl, .inr hs, h⟩
theorem pow_go {k : Int} (e : (10 : Int) ^ m.toNat = k) (hm : 0 ≤ m ∧ m ≤ 1000000) (h : Q (.int k) H) :
    rPow (.int 10) (.int m) H Q :=
  ⟨10, m, rfl, rfl, ⟨hm.1, hm.2, by decide⟩, by
    show Q (.int (10 ^ m.toNat)) H
    rw [e]
    exact h⟩
theorem i_pw6 (h : Q (.int 1000000) H) : rPow (.int 10) (.int 6) H Q :=
  pow_go rfl (by decide) h
theorem i_pw16 (h : Q (.int 10000000000000000) H) : rPow (.int 10) (.int 16) H Q :=
  pow_go rfl (by decide) h
theorem i_pw18 (h : Q (.int 1000000000000000000) H) :
    rPow (.int 10) (.int 18) H Q := pow_go rfl (by decide) h
theorem i_pw58 (h : Q (.int 10000000000000000000000000000000000000000000000000000000000) H) :
    rPow (.int 10) (.int 58) H Q := pow_go rfl (by decide) h
theorem i_pw59 (h : Q (.int 100000000000000000000000000000000000000000000000000000000000) H) :
    rPow (.int 10) (.int 59) H Q := pow_go rfl (by decide) h
theorem i_pw60 (h : Q (.int 1000000000000000000000000000000000000000000000000000000000000) H) :
    rPow (.int 10) (.int 60) H Q := pow_go rfl (by decide) h
theorem i_pw61 (h : Q (.int 10000000000000000000000000000000000000000000000000000000000000) H) :
    rPow (.int 10) (.int 61) H Q := pow_go rfl (by decide) h
theorem log_small {j : Int} (h0 : 0 < j) (h : j ≤ 10000000000000000000000000000000000000000000000000000000000000000000000) :
    j.natAbs.log2 < 9000 := by
  have h1 : j.natAbs < 2 ^ 9000 := by
    have h2 : j.natAbs ≤ 10 ^ 70 := by
      have e : ((10 ^ 70 : Nat) : Int) = 10000000000000000000000000000000000000000000000000000000000000000000000 := by rfl
      omega
    exact Nat.lt_of_le_of_lt h2 (by decide +kernel)
  exact (Nat.log2_lt (by omega)).mpr h1
theorem divp_small {i j : Int} (h0 : 0 < j) (h : j.natAbs.log2 < 9000) : CDivP i j := by
  refine ⟨h0, ?_⟩
  have nz : ¬ (j == 0) = true := by
    simpa using (show j ≠ 0 by omega)
  unfold Builtin.divisionGoesByPylong
  simp only [nz]
  have e : ¬ (j.natAbs.log2 / 30 + 1 > 300) := by omega
  first
    | (simp only [e, decide_false, Bool.false_and]; done)
    | (simp [e]; done)
    | (simp; omega)
theorem i_dm (h0 : 0 < m)
    (h1 : m ≤ 10000000000000000000000000000000000000000000000000000000000000000000000)
    (h : New H fun q => Q (.ref q) (upd H q (.tup [.int (n / m), .int (n % m)]))) :
    rDm [.int n, .int m] H Q := ⟨n, m, rfl, divp_small h0 (log_small h0 h1), h⟩
theorem i_div (h0 : 0 < m)
    (h1 : m ≤ 10000000000000000000000000000000000000000000000000000000000000000000000)
    (h : Q (.int (n / m)) H) : uDiv (.int n) (.int m) H Q := ⟨n, m, rfl, rfl, ⟨h0, log_small h0 h1⟩, h⟩
/-- a pot: two numbers from which draws come -/
def PotAt (H : Hp) (p : Addr) : Prop :=
  ∃ x y : Int, H p = some (.lst [.int x, .int y]) ∧ 0 ≤ x ∧ 0 ≤ y ∧ y < 8589934592
theorem PotAt.kp {ws : List Addr} {H1 : Hp} (h : PotAt H p) (k : Kp ws H H1) (hp : p ∉ ws) : PotAt H1 p := by
  obtain ⟨x, y, e, r⟩ := h
  exact ⟨x, y, k.at_ _ _ e hp, r⟩
end
end G
namespace G
open PySem PySem.Spec PyProof.Rows L2
def dty : PyData → String
  | .none => "NoneType"
  | .bool _ => "bool"
  | .int _ => "int"
  | .str _ => "str"
  | .list _ => "list"
  | .tuple _ => "tuple"
  | .dict _ => "dict"
section
variable {K : PySem.W.Frag} {σ : L2.St} {H : Hp} {Q : VK} {n m : Int} {a p : Addr} {xs : List V} {v : V} {d : PyData}
theorem dp_ty (h : Dp K H v d) : TyX K H v (.type (dty d)) := by
  cases h with
  | non => exact .base .non
  | bl b => exact .base (.bl b)
  | int i => exact .base (.int i)
  | str x => exact .base (.str x)
  | lst hs ha =>
    rcases hs with (h | ⟨o, h⟩) | ⟨o, its, k, e, c, r⟩
    · exact .base (.lst h)
    · exact .base (.frz h)
    · exact .kList e c
  | tup hs ha =>
    rcases hs with (h | ⟨o, h⟩) | ⟨o, its, k, e, c, r⟩
    · exact .base (.tup h)
    · exact .fTuple h
    · exact .kTuple e c
theorem i_isD {T : String} {b : Bool} (hd : Dp K H v d) (e : kitB (dty d) T = some b) (h : Q (.bl b) H) :
    rIsi K [v, .ty T] H Q := ⟨v, .ty T, _, _, b, rfl, .ty T, dp_ty hd, kit_ty e, h⟩
theorem i_revL {te : TE} (h : te σ H fun x H1 => ∃ a xs, x = .ref a ∧ SqL K H1 a xs ∧
    New H1 fun p => Q (.ref p) (upd H1 p (.lst xs.reverse))) : tRevL K te σ H Q := h
theorem i_revd {P : Addr → List V → Prop} (hs : SqL K H a xs) (h : P a xs) :
    ∃ b ys, V.ref a = .ref b ∧ SqL K H b ys ∧ P b ys := ⟨a, xs, rfl, hs, h⟩
def rIns : V → List V → Hp → VK → Prop := fun x vs H Q => ∃ (l : Addr) (xs : List V) (i : Int) (y : V),
  x = .ref l ∧ vs = [.int i, y] ∧ H l = some (.lst xs) ∧ xs.length < sizeLine ∧ 0 ≤ i ∧ i < 2 ^ 63 ∧
  Q .non (upd H l (.lst (xs.take i.toNat ++ [y] ++ xs.drop i.toNat)))
theorem m_insert {X : Cx} : MtR X "list.insert" rIns := mt_insert
theorem i_ins0 {y : V} (hs : H p = some (.lst xs)) (hz : xs.length < sizeLine)
    (h : Q .non (upd H p (.lst (y :: xs)))) : rIns (.ref p) [.int 0, y] H Q :=
  ⟨p, xs, 0, y, rfl, rfl, hs, hz, by decide, by decide, h⟩
theorem i_call0 {sp : Sp} {E : XK} {tr : TA} (h : tr σ H fun vs H1 => sp vs H1 Q E) :
    tCall sp [] E tr σ H Q := by
  unfold tCall
  simp only [List.append_nil]
  exact h
def rAllB (K : PySem.W.Frag) : List V → Hp → VK → Prop := rAll K
theorem i_all {bs : List Bool} (hs : SqL K H p (bs.map V.bl)) (h : Q (.bl (bs.all id)) H) :
    rAll K [.ref p] H Q := ⟨p, bs, rfl, hs, h⟩
theorem i_any {bs : List Bool} (hs : SqL K H p (bs.map V.bl)) (h : Q (.bl (bs.any id)) H) :
    rAny K [.ref p] H Q := ⟨p, bs, rfl, hs, h⟩
theorem i_sum {ns : List Int} (hs : SqL K H p (ns.map V.int)) (h : Q (.int ns.sum) H) :
    rSum K [.ref p] H Q := ⟨p, ns, rfl, hs, h⟩
/-- an item by an index that is not written -/
theorem at_in {l : List V} {r : Int} (h0 : 0 ≤ r) (h1 : r < l.length) : ∃ v, atI l r = some v ∧ v ∈ l := by
  obtain ⟨k, rfl⟩ : ∃ k : Nat, r = k := ⟨r.toNat, by omega⟩
  have hl : k < l.length := by omega
  exact ⟨l[k], atI_nat (by simp), List.getElem_mem hl⟩
end
section
variable {K : PySem.W.Frag} {σ : L2.St} {H H1 : Hp} {Q : VK} {a p l : Addr} {xs : List V} {g : TG} {tt : TT} {te : TE} {vs : List Nat} {QB : Bool → Hp → Prop}
/-- a comprehension over x, a list -/
def LcL (K : PySem.W.Frag) (x : V) (g : TG) (tt : TT) (te : TE) (vs : List Nat) (σ : L2.St) (H1 : Hp) (Q : VK) : Prop :=
  ∃ a, x = .ref a ∧ (∃ xs, SqL K H1 a xs) ∧ ∀ D, H1 D = none →
    ∃ W : Nat → Nat → Hp → Prop, (∃ m, W 0 m (upd H1 D (.lst []))) ∧ ∀ i m H, W i m H →
      ((Itl K a).stop i H ∧ Q (.ref D) H) ∨ ((Itl K a).go i H ∧ ∃ Nx : Hp → Prop,
        (∀ H', Nx H' → ∃ m', m' < m ∧ W (i + 1) m' H') ∧
        ∀ x H', (Itl K a).yld i H x H' → g x (wipe σ vs) H' fun σ2 H2 => wipe σ2 vs = wipe σ vs ∧ tt σ2 H2 fun b H3 =>
          if b = true then te σ2 H3 fun y H4 => ∃ acc, H4 D = some (.lst acc) ∧ acc.length < sizeLine ∧
            Nx (upd H4 D (.lst (acc ++ [y]))) else Nx H3)
theorem i_lcL {te' : TE} (h : te' σ H fun x H1 => LcL K x g tt te vs σ H1 Q) :
    tLc (iList K te') g tt te vs σ H Q := h
theorem i_elts (hs : SqL K H a xs) (Pv : Addr → Nat → Hp → Prop)
    (h0 : ∀ D, Fr H D → Pv D 0 (upd H D (.lst [])))
    (hl : ∀ D i H', Fr H D → i ≤ xs.length → Pv D i H' → SqL K H' a xs)
    (st : ∀ D i x H', Fr H D → xs[i]? = some x → Pv D i H' → g x (wipe σ vs) H' fun σ2 H2 =>
      wipe σ2 vs = wipe σ vs ∧ tt σ2 H2 fun b H3 => if b = true then te σ2 H3 fun y H4 =>
        ∃ acc, H4 D = some (.lst acc) ∧ acc.length < sizeLine ∧ Pv D (i + 1) (upd H4 D (.lst (acc ++ [y])))
        else Pv D (i + 1) H3)
    (hd : ∀ D H', Fr H D → Pv D xs.length H' → Q (.ref D) H') : LcL K (.ref a) g tt te vs σ H Q := by
  refine ⟨a, rfl, ⟨_, hs⟩, fun D hD => ?_⟩
  exact lc_list (K := K) (a := a) (xs := xs) (Pv D) (h0 D ⟨hD⟩) (fun i H' => hl D i H' ⟨hD⟩)
    (fun i x H' => st D i x H' ⟨hD⟩) (fun H' => hd D H' ⟨hD⟩)
def LcR (ws : List V) (g : TG) (tt : TT) (te : TE) (vs : List Nat) (σ : L2.St) (H1 : Hp) (Q : VK) : Prop :=
  ∃ j : Int, ws = [.int j] ∧ -(2 ^ 62) ≤ j ∧ j < 2 ^ 62 ∧ ∀ D, H1 D = none →
    ∃ W : Nat → Nat → Hp → Prop, (∃ m, W 0 m (upd H1 D (.lst []))) ∧ ∀ i m H, W i m H →
      ((Itr 0 j.toNat).stop i H ∧ Q (.ref D) H) ∨ ((Itr 0 j.toNat).go i H ∧ ∃ Nx : Hp → Prop,
        (∀ H', Nx H' → ∃ m', m' < m ∧ W (i + 1) m' H') ∧
        ∀ x H', (Itr 0 j.toNat).yld i H x H' → g x (wipe σ vs) H' fun σ2 H2 => wipe σ2 vs = wipe σ vs ∧ tt σ2 H2 fun b H3 =>
          if b = true then te σ2 H3 fun y H4 => ∃ acc, H4 D = some (.lst acc) ∧ acc.length < sizeLine ∧
            Nx (upd H4 D (.lst (acc ++ [y]))) else Nx H3)
theorem i_lcR {ta : TA} (h : ta σ H fun ws H1 => LcR ws g tt te vs σ H1 Q) :
    tLc (iRng1 ta) g tt te vs σ H Q := h
theorem i_reps {n : Int} (b1 : 0 ≤ n) (b2 : n < 2 ^ 62) (Pv : Addr → Nat → Hp → Prop)
    (h0 : ∀ D, Fr H D → Pv D 0 (upd H D (.lst [])))
    (st : ∀ D (i : Nat) H', Fr H D → (i : Int) < n → Pv D i H' → g (.int i) (wipe σ vs) H' fun σ2 H2 =>
      wipe σ2 vs = wipe σ vs ∧ tt σ2 H2 fun b H3 => if b = true then te σ2 H3 fun y H4 =>
        ∃ acc, H4 D = some (.lst acc) ∧ acc.length < sizeLine ∧ Pv D (i + 1) (upd H4 D (.lst (acc ++ [y])))
        else Pv D (i + 1) H3)
    (hd : ∀ D H', Fr H D → Pv D n.toNat H' → Q (.ref D) H') : LcR [.int n] g tt te vs σ H Q := by
  refine ⟨n, rfl, by omega, b2, fun D hD => ?_⟩
  refine lc_range (lo := 0) (n := n.toNat) (Pv D) (h0 D ⟨hD⟩) (fun i H' hi q => ?_) (fun H' => hd D H' ⟨hD⟩)
  have e : V.int (0 + (i : Int)) = V.int i := by rw [Int.zero_add]
  rw [e]
  exact st D i H' ⟨hD⟩ (by omega) q
theorem i_wipe {σ2 : L2.St} {P : Prop} (e : wipe σ2 vs = wipe σ vs) (h : P) : wipe σ2 vs = wipe σ vs ∧ P := ⟨e, h⟩
theorem i_yes (h : QB true H) : tYes σ H QB := h
theorem i_acc {D : Addr} {y : V} {P : Hp → Prop} {acc : List V} (h1 : H D = some (.lst acc)) (h2 : acc.length < sizeLine)
    (h : P (upd H D (.lst (acc ++ [y])))) : ∃ acc, H D = some (.lst acc) ∧ acc.length < sizeLine ∧ P (upd H D (.lst (acc ++ [y]))) :=
  ⟨acc, h1, h2, h⟩
end
end G
namespace G
open PySem PySem.Spec PyProof.Rows L2
section
variable {K : PySem.W.Frag} {H H1 : Hp} {a p l q : Addr} {ws : List Addr} {o u : HO} {ds : List PyData}
theorem kp_at (k : Kp ws H H1) (h : H a = some u) (n : a ∉ ws) : H1 a = some u := k.at_ a u h n
theorem not_nil {α : Type} {a : α} : a ∉ ([] : List α) := List.not_mem_nil
theorem not_one {a b : Addr} (h : a ≠ b) : a ∉ [b] := fun z => h (List.mem_singleton.mp z)
theorem not_two {a b c : Addr} (h : a ≠ b) (h2 : a ≠ c) : a ∉ [b, c] := fun z => by
  rcases List.mem_cons.mp z with z | z
  · exact h z
  · exact h2 (List.mem_singleton.mp z)
theorem pot_upd (h : PotAt H p) (n : p ≠ q) : PotAt (upd H q o) p := by
  obtain ⟨x, y, e, r⟩ := h
  exact ⟨x, y, by rw [upd_ne n]; exact e, r⟩
theorem PotAt.ne {x : Addr} (h : PotAt H p) (f : Fr H x) : p ≠ x := by
  have hx := f.e
  obtain ⟨_, _, e, _⟩ := h
  exact ne_of_none e hx
theorem pot_ne {x : Addr} (hx : Fr H x) (h : PotAt H p) : p ≠ x := h.ne hx
theorem LD.ne {x : Addr} (h : LD K H l ds) (f : Fr H x) : l ≠ x := by
  have hx := f.e
  obtain ⟨_, e, _⟩ := h
  exact ne_of_none e hx
theorem ld_ne {x : Addr} (f : Fr H x) (h : LD K H l ds) : l ≠ x := h.ne f
theorem ld_upd (h : LD K H l ds) (hi : imms ds = true) (hq : Fr H q) : LD K (upd H q o) l ds := by
  have k : Kp ([] : List Addr) H (upd H q o) := Kp.new hq
  exact h.kp k hi not_nil
theorem ld_upl {ys : List V} (h : LD K H l ds) (hi : imms ds = true) (hq : H q = some (.lst ys))
    (n : l ≠ q) : LD K (upd H q o) l ds := by
  have k : Kp [q] H (upd H q o) := Kp.mut hq (fun z => z) (List.mem_singleton.mpr rfl)
  exact h.kp k hi (not_one n)
theorem sqL_new {xs : List V} (h : SqL K H a xs) (f : Fr H q) : SqL K (upd H q o) a xs :=
  (Kp.new (ws := []) f).seqL not_nil h
theorem sqL_kp {xs : List V} (k : Kp ws H H1) (h : SqL K H a xs) (n : a ∉ ws) : SqL K H1 a xs := k.seqL n h
theorem at_zero {x : V} {xs : List V} : atI (x :: xs) 0 = some x := atI_nat (j := 0) rfl
theorem ix_zero (n : Nat) : ixN (n + 1) 0 = some 0 := by
  unfold ixN
  rw [if_pos (by decide), if_pos (by omega)]
  rfl
theorem dpa_rev : ∀ {ds : List PyData} {vs : List V}, DpAll K H vs ds → DpAll K H vs.reverse ds.reverse
  | [], _, h => by cases h; exact .nil
  | _ :: _, _, h => by
    cases h with
    | cons h1 h2 =>
      rw [List.reverse_cons, List.reverse_cons]
      exact dpa_app (dpa_rev h2) (dpa_one h1)
/-- something is put behind -/
theorem ld_app {y : V} {d : PyData} {vs : List V} (h : DpAll K H vs ds) (e : H l = some (.lst vs))
    (hi : imms ds = true) (hd : Dp K H y d) (hj : imm d = true) : LD K (upd H l (.lst (vs ++ [y]))) l (ds ++ [d]) := by
  have k : Kp [l] H (upd H l (.lst (vs ++ [y]))) := Kp.mut e (fun z => z) (List.mem_singleton.mpr rfl)
  exact ⟨_, upd_same, dpa_app (dpa_imm k _ _ hi h) (dpa_one (dp_imm k _ _ hj hd))⟩
end
end G

namespace G
open PySem PySem.Spec PyProof.Rows L2
/-! the same rules, the written part named -/
section
variable {X : Cx} {K : PySem.W.Frag} {e : Expr} {es : List Expr} {te : TE} {t : TGs} {f : Str} {pos : Pos} {tg : Expr}
theorem k_add (h : X.K = K) : OpR X (binaryOp .Add) (uAdd K) := h ▸ o_add
theorem k_eq (h : X.K = K) (hu : X.A.units + 64 < cLine) : OpR X (compareOp .Eq) (uEq K) := h ▸ o_eq hu
theorem k_ne (h : X.K = K) (hu : X.A.units + 64 < cLine) : OpR X (compareOp .NotEq) (uNe K) := h ▸ o_ne hu
theorem k_ix (h : X.K = K) : IxR X (uIx K) := h ▸ o_ix
theorem k_len (h : X.K = K) : CallR X (.builtin "len") (uLen K) := h ▸ c_len
theorem k_list (h : X.K = K) : CallR X (.type "list") (rListOf K) := h ▸ c_list
theorem k_repr (h : X.K = K) (hg : X.A.guards = some []) (hu : X.A.units + 64 < cLine) :
    CallR X (.builtin "repr") (rRepr K) := h ▸ call_repr hg hu
theorem k_all (h : X.K = K) (hc : X.calm = true) : CallR X (.builtin "all") (rAll K) := h ▸ cr_all hc
theorem k_any (h : X.K = K) (hc : X.calm = true) : CallR X (.builtin "any") (rAny K) := h ▸ cr_any hc
theorem k_sum (h : X.K = K) (hc : X.calm = true) : CallR X (.builtin "sum") (rSum K) := h ▸ cr_sum hc
theorem k_isi (h : X.K = K) : CallR X (.builtin "isinstance") (rIsi K) := h ▸ call_isi
theorem k_sl (h : X.K = K) : SlR X (rSlL K) := h ▸ sl_list
theorem k_slT (h : X.K = K) : SlR X (rSlT K) := h ▸ sl_tup
theorem k_in (h : X.K = K) : OpR X (compareOp .In) (rIn K false) := h ▸ op_in_seq
theorem k_nin (h : X.K = K) : OpR X (compareOp .NotIn) (rIn K true) := h ▸ op_notIn_seq
theorem k_fld (h : X.K = K) (he : PE X e te) (hb : attributeBase e f X.env (eval e X.env) = eval e X.env) :
    PE X (.Attribute e f pos) (tFld K te f) := h ▸ pe_fld he hb
theorem k_plist (h : X.K = K) (he : PE X e te) : PI X tg e (iList K te) := h ▸ pi_list he
theorem k_ptup (h : X.K = K) (he : PE X e te) : PI X tg e (iTup K te) := h ▸ pi_tup he
theorem k_rev {k : Nat} {p1 p2 p3 : Pos} (h : X.K = K) (he : PE X e te) :
    PE X (.Subscript e (.Slice none none (some (.UnaryOp .USub (.Constant (.int 1) k p1) p2)) p3) pos) (tRevL K te) :=
  h ▸ pe_revL he
theorem k_gtup {k : Nat} (n : Nat) (h : X.K = K) (hc : X.calm = true) (hp : PGs X es t)
    (hn : (assignEach es X.env).length = n := by rfl)
    (hst : (assignEach es X.env).findIdx? (·.1) = none := by rfl) : PG X (.Tuple es k pos) (gTup K n t) :=
  h ▸ pg_tup hc hp hn hst
end
end G
namespace G
open PySem PySem.Spec PyProof.Rows L2
/-! what is tracked; what is fixed -/
structure Tr (H : Hp) (a : Addr) : Prop where
  ex : ∃ o, H a = some o
structure Fx (H H1 : Hp) : Prop where
  fx : ∀ a u, H a = some u → Fix u → H1 a = some u
section
variable {K : PySem.W.Frag} {H H0 H1 : Hp} {Q : VK} {a b p l q : Addr} {ws : List Addr} {o u : HO} {ds : List PyData} {xs : List V} {n : Int} {v : V}
theorem tr_of (h : H a = some o) : Tr H a := ⟨o, h⟩
theorem tr_same : Tr (upd H p o) p := ⟨o, upd_same⟩
theorem tr_upd (h : Tr H a) : Tr (upd H p o) a := by
  by_cases e : a = p
  · rw [e]
    exact tr_same
  · obtain ⟨u, h⟩ := h.ex
    exact ⟨u, by rw [upd_ne e]; exact h⟩
theorem tr_kp (k : Kp ws H H1) (h : Tr H a) : Tr H1 a := by
  obtain ⟨u, h⟩ := h.ex
  obtain ⟨v, e⟩ := k.dom _ _ h
  exact ⟨v, e⟩
theorem tr_ld (h : LD K H a ds) : Tr H a := by
  obtain ⟨vs, e, _⟩ := h
  exact ⟨_, e⟩
theorem tr_pot (h : PotAt H a) : Tr H a := by
  obtain ⟨x, y, e, _⟩ := h
  exact ⟨_, e⟩
theorem fr_tr (h : Tr H a) (f : Fr H b) : a ≠ b := by
  obtain ⟨u, e⟩ := h.ex
  exact fr_ne e f
theorem fx_refl : Fx H H := ⟨fun _ _ h _ => h⟩
theorem fx_new (h : Fx H0 H) (f : Fr H p) : Fx H0 (upd H p o) := ⟨fun a u e z => by
  have e2 := h.fx a u e z
  rw [upd_ne (fr_ne e2 f)]
  exact e2⟩
theorem fx_mut (h : Fx H0 H) (f : H p = some u) (nf : ¬ Fix u) : Fx H0 (upd H p o) := ⟨fun a v e z => by
  have e2 := h.fx a v e z
  rw [upd_ne]
  · exact e2
  · intro c
    subst c
    rw [f] at e2
    cases e2
    exact nf z⟩
theorem fx_kp (k : Kp ws H H1) (h : Fx H0 H) : Fx H0 H1 := ⟨fun a u e z => k.fix a u (h.fx a u e z) z⟩
theorem Fx.seqT (k : Fx H H1) (h : SqT K H l xs) : SqT K H1 l xs := by
  rcases h with (h | ⟨o, h⟩) | h
  · exact .inl (.inl (k.fx _ _ h trivial))
  · exact .inl (.inr ⟨o, k.fx _ _ h trivial⟩)
  · exact .inr h
mutual
theorem Fx.dp (k : Fx H H1) : ∀ (d : PyData) (v : V), imm d = true → Dp K H v d → Dp K H1 v d
  | .none, _, _, h => by cases h; exact .non
  | .bool b, _, _, h => by cases h; exact .bl b
  | .int i, _, _, h => by cases h; exact .int i
  | .str x, _, _, h => by cases h; exact .str x
  | .tuple ds, _, hi, h => by
    cases h with
    | tup hs ha => exact .tup (k.seqT hs) (Fx.dpa k ds _ (by simpa only [imm] using hi) ha)
  | .list _, _, hi, _ => by simp only [imm] at hi; cases hi
  | .dict _, _, hi, _ => by simp only [imm] at hi; cases hi
theorem Fx.dpa (k : Fx H H1) : ∀ (ds : List PyData) (vs : List V), imms ds = true →
    DpAll K H vs ds → DpAll K H1 vs ds
  | [], _, _, h => by cases h; exact .nil
  | d :: ds, _, hi, h => by
    simp only [imms, Bool.and_eq_true] at hi
    cases h with
    | cons h1 h2 => exact .cons (Fx.dp k d _ hi.1 h1) (Fx.dpa k ds _ hi.2 h2)
end
/-- an item of an object -/
def ixO : HO → Int → V → Prop
  | .lst xs, n, v => atI xs n = some v
  | .tup xs, n, v => atI xs n = some v
  | _, _, _ => False
theorem i_ixO (h : H p = some o) (hv : ixO o n v) (q : Q v H) : uIx K (.ref p) (.int n) H Q := by
  cases o with
  | lst xs => exact i_ixL (SqL.of h) hv q
  | tup xs => exact i_ixT (SqT.of h) hv q
  | _ => exact hv.elim
theorem i_ixS (h0 : SqT K H0 p xs) (k : Fx H0 H) (hv : atI xs n = some v) (q : Q v H) :
    uIx K (.ref p) (.int n) H Q := i_ixT (k.seqT h0) hv q
def lenO : HO → Int → Prop
  | .lst xs, n => n = xs.length
  | .tup xs, n => n = xs.length
  | _, _ => False
theorem i_lenO (h : H p = some o) (hv : lenO o n) (q : Q (.int n) H) : uLen K [.ref p] H Q := by
  cases o with
  | lst xs =>
    have e : n = xs.length := hv
    subst e
    exact i_lenL (SqL.of h) q
  | tup xs =>
    have e : n = xs.length := hv
    subst e
    exact i_lenT (SqT.of h) q
  | _ => exact hv.elim
end
end G
namespace G
open PySem PySem.Spec PyProof.Rows L2
section
variable {K : PySem.W.Frag} {H : Hp} {Q : VK} {x y : V} {d : PyData}
theorem ne_same (hx : Dp K H x d) (hy : Dp K H y d) (sh : SeqAt.shaped d = true) (h : Q (.bl false) H) :
    uNe K x y H Q := by
  refine i_neD hx hy sh sh ?_
  rw [SeqAt.eqv_refl d (SeqAt.canLay_of_shaped sh)]
  exact h
theorem eq_same (hx : Dp K H x d) (hy : Dp K H y d) (sh : SeqAt.shaped d = true) (h : Q (.bl true) H) :
    uEq K x y H Q := by
  refine i_eqD hx hy sh sh ?_
  rw [SeqAt.eqv_refl d (SeqAt.canLay_of_shaped sh)]
  exact h
/-- a number that may be shown -/
def okI (i : Int) : Prop := i.natAbs.log2 < 1920
theorem okI_of {i : Int} (h0 : -100000000000000000000000000000000000000000000000000000000000000000000000 ≤ i)
    (h1 : i ≤ 100000000000000000000000000000000000000000000000000000000000000000000000) : okI i := by
  unfold okI
  have h2 : i.natAbs ≤ 10 ^ 71 := by
    have e : ((10 ^ 71 : Nat) : Int) = 100000000000000000000000000000000000000000000000000000000000000000000000 := by rfl
    omega
  by_cases z : i.natAbs = 0
  · rw [z]
    decide
  · exact (Nat.log2_lt z).mpr (Nat.lt_of_le_of_lt h2 (by decide +kernel))
theorem shws_pairs : ∀ l : List (Int × Int), (∀ q ∈ l, okI q.1 ∧ okI q.2) → shws (l.map d2) = true
  | [], _ => rfl
  | q :: l, h => by
    have a := h q List.mem_cons_self
    have b := shws_pairs l fun z hz => h z (List.mem_cons_of_mem _ hz)
    simp only [List.map_cons, shws, shw, b, Bool.and_true, Bool.and_eq_true, decide_eq_true_eq]
    exact a
theorem cws_pairs : ∀ l : List (Int × Int), cws (l.map d2) = 3868 * l.length
  | [] => rfl
  | q :: l => by
    simp only [List.map_cons, cws, cw, cws_pairs l, List.length_cons]
    omega
theorem depth_list (l : List (Int × Int)) : (PyData.list (l.map d2)).depth ≤ 60 := by
  simp only [PyData.depth]
  have q := depth_pairs l
  omega
theorem repr_pairs {l : List (Int × Int)} (hx : Dp K H x (.list (l.map d2))) (h : ∀ q ∈ l, okI q.1 ∧ okI q.2)
    (hl : l.length ≤ 4000) (q : Q (.str (PyData.list (l.map d2)).shown) H) : rRepr K [x] H Q := by
  refine i_repr hx ?_ (depth_list l) ?_ q
  · simp only [shw]
    exact shws_pairs l h
  · have e : cw (.list (l.map d2)) = 3868 * l.length + 2 := by simp only [cw, cws_pairs]
    rw [e]
    exact Nat.le_trans (show 3868 * l.length + 2 ≤ 15472002 by omega) (by decide)
end
end G
namespace G
open PySem PySem.Spec PyProof.Rows L2
/-! methods, new instances, keywords -/
section
variable {X : Cx} {k n : Nat} {f C : Addr} {fd : FuncData} {ps ks : List Str} {sp : Sp}
variable {dvs : List V} {ds : List Value} {E : XK} {x m : Str} {p pos apos : Pos} {e o : Expr}
variable {es : List Expr} {kws : List Keyword} {ta : TE} {t tk : TA} {pins : List (Addr × Obj)} {σ : L2.St} {H : Hp}
variable {s s' : Shared} {Q : VK} {g : List Value → List Value → List Value} {gV : List V → List V → List V}
/-- defaults of which only the values are known -/
def BindsD (K : PySem.W.Frag) (fd : FuncData) (ps : List Str) (dvs : List V) : Prop :=
  ∃ ds, Vals dvs ds ∧ Binds K fd ps ds
def KBnD (K : PySem.W.Frag) (fd : FuncData) (ps : List Str) (n : Nat) (ks : List Str)
    (gV : List V → List V → List V) : Prop := ∃ g, KBn K fd ps n ks g gV
theorem BindsD.plain {K : PySem.W.Frag} (h : Binds K fd ps []) : BindsD K fd ps [] := ⟨[], .nil, h⟩
theorem d1 (F : Fg X k f fd ps sp) (z : RoomG k X.A) (hg : Gl X x) (hm : X.mg x = some (.ref f))
    (hk : PySem.W.keepIn X.K (.ref f) = true) (hb : BindsD X.K fd ps dvs)
    (hx : Ps X E) (ha : PA X (e :: es) t)
    (hdb : (x == ("__debug__" : Str)) = false := by decide)
    (he : starEach (e :: es) X.env = (false, eval e X.env) :: starEach es X.env := by rfl)
    (hpl : (backTo pos (starEach es X.env)).any (·.1) = false := by rfl) :
    PE X (.Call (.Name x p) (e :: es) [] pos) (tCall sp dvs E t) := by
  obtain ⟨ds, hd, hb⟩ := hb
  exact c1 F z hg hm hk hb hd hx ha hdb he hpl
theorem dm {pl : Sem Bool} (c : Cls X.K C) (hm : Meth X.K C m f)
    (F : Fg X k f fd ps sp) (z : RoomG k X.A) (hb : BindsD X.K fd ps dvs)
    (hx : Ps X E) (he : PE X o ta) (ha : PA X (e :: es) t)
    (hst : starEach (e :: es) X.env = (false, eval e X.env) :: starEach es X.env := by rfl)
    (hpl : (backTo pos (starEach es X.env)).any (·.1) = false := by rfl)
    (ht : eval (.Call (.Attribute o m apos) (e :: es) [] pos) X.env = (do
      let y ← eval o X.env
      standAt apos.atName
      let (g, a) ← holding [y] (getMethod y m pl)
      callWith pos g a (backTo pos (starEach (e :: es) X.env))
        (backToKw pos (keywordEach [] X.env))) := by rfl) :
    PE X (.Call (.Attribute o m apos) (e :: es) [] pos) (tMeth C m sp dvs E ta t) := by
  obtain ⟨ds, hd, hb⟩ := hb
  exact cm he c hm F z hb hd hx ha hst hpl ht
theorem dm0 {pl : Sem Bool} (c : Cls X.K C) (hm : Meth X.K C m f)
    (F : Fg X k f fd ps sp) (z : RoomG k X.A) (hb : BindsD X.K fd ps dvs)
    (hx : Ps X E) (he : PE X o ta)
    (ht : eval (.Call (.Attribute o m apos) [] [] pos) X.env = (do
      let y ← eval o X.env
      standAt apos.atName
      let (g, a) ← holding [y] (getMethod y m pl)
      callWith pos g a (backTo pos (starEach [] X.env))
        (backToKw pos (keywordEach [] X.env))) := by rfl) :
    PE X (.Call (.Attribute o m apos) [] [] pos) (tMeth C m sp dvs E ta tNil) := by
  obtain ⟨ds, hd, hb⟩ := hb
  exact cm0 he c hm F z hb hd hx ht
/-- a call of f with positional values and keywords -/
theorem runK {us ws : List Value} {vs zs : List V} (F : Fg X k f fd ps sp) (z : RoomG k X.A)
    (hb : KBn X.K fd ps n ks g gV) (hx : Ps X E) (I : Inv X pins σ H s) (rv : Vals vs us) (rz : Vals zs ws)
    (l1 : vs.length = n) (l2 : zs.length = ks.length) (h : sp (gV vs zs) H Q E) :
    wpAny (model X.prog X.w) X.A (call (.ref f) us (ks.zip ws)) (EP X pins σ Q) X.xe s := by
  have b := hb.to s us ws I.kIn (rv.length.symm.trans l1) (rz.length.symm.trans l2)
  refine wpAny_call (codeAny_mono (runG F z b hx I (hb.rel rv rz) h) ?_)
  intro r s' q
  match r, q with
  | .error e, q => exact q
  | .ok (.ret u), q => exact q
  | .ok .next, q => exact q
  | .ok .brk, q => exact q
  | .ok .cont, q => exact q
def tKw (n m : Nat) (sp : Sp) (gV : List V → List V → List V) (E : XK) (t tk : TA) : TE := fun σ H Q =>
  t σ H fun vs H1 => tk σ H1 fun zs H2 => vs.length = n ∧ zs.length = m ∧ sp (gV vs zs) H2 Q E
def tMw (C : Addr) (nm : Str) (n m : Nat) (sp : Sp) (gV : List V → List V → List V) (E : XK) (ta : TE) (t tk : TA) : TE :=
  fun σ H Q => ta σ H fun x H1 => ∃ a dx fs, x = .ref a ∧ H1 a = some (.ins C dx fs) ∧ fs.lookup nm = none ∧
    t σ H1 fun vs H2 => tk σ H2 fun zs H3 => vs.length = n ∧ zs.length = m ∧ sp (gV (x :: vs) zs) H3 Q E
theorem kc (F : Fg X k f fd ps sp) (z : RoomG k X.A) (hg : Gl X x) (hm : X.mg x = some (.ref f))
    (hk : PySem.W.keepIn X.K (.ref f) = true) (hb : KBnD X.K fd ps n ks gV) (hx : Ps X E)
    (ha : PA X (e :: es) t) (hkw : PK X kws tk)
    (hall : (backToKw pos (keywordEach kws X.env)).all (·.1.isSome) = true := by rfl)
    (hks : (backToKw pos (keywordEach kws X.env)).filterMap (·.1) = ks := by rfl)
    (hdb : (x == ("__debug__" : Str)) = false := by decide)
    (he : starEach (e :: es) X.env = (false, eval e X.env) :: starEach es X.env := by rfl)
    (hpl : ((backTo pos (starEach (e :: es) X.env)).any (·.1) ||
      (backToKw pos (keywordEach kws X.env)).any (·.1.isNone)) = false := by rfl) :
    PE X (.Call (.Name x p) (e :: es) kws pos) (tKw n ks.length sp gV E t tk) := by
  obtain ⟨g, hb⟩ := hb
  constructor
  intro pins s σ H Q I h
  refine wpAny_Call_Name_kw (ld_glob I hg hm ?_ hdb)
  refine PySem.W.callWith_KW (h₀ := X.base) I.ok.mod.kin hk hall ?_ hpl he
  refine thn (ha.run pos pins s σ H _ I h) ?_
  intro us s1 y
  obtain ⟨vs, H1, I1, r, q⟩ := y
  refine thn (hkw.run pos pins s1 σ H1 _ I1 q) ?_
  intro ws s2 y
  obtain ⟨zs, H2, I2, rz, l1, l2, q2⟩ := y
  refine ⟨I2.kIn, ?_⟩
  rw [hks]
  exact runK F z hb hx I2 r rz l1 l2 q2
theorem kc0 (F : Fg X k f fd ps sp) (z : RoomG k X.A) (hg : Gl X x) (hm : X.mg x = some (.ref f))
    (hk : PySem.W.keepIn X.K (.ref f) = true) (hb : KBnD X.K fd ps 0 ks gV) (hx : Ps X E)
    (hkw : PK X kws tk)
    (hall : (backToKw pos (keywordEach kws X.env)).all (·.1.isSome) = true := by rfl)
    (hks : (backToKw pos (keywordEach kws X.env)).filterMap (·.1) = ks := by rfl)
    (hdb : (x == ("__debug__" : Str)) = false := by decide)
    (hpl : ((backTo pos (starEach [] X.env)).any (·.1) ||
      (backToKw pos (keywordEach kws X.env)).any (·.1.isNone)) = false := by rfl) :
    PE X (.Call (.Name x p) [] kws pos) (tKw 0 ks.length sp gV E tNil tk) := by
  obtain ⟨g, hb⟩ := hb
  constructor
  intro pins s σ H Q I h
  refine wpAny_Call_Name_kw (ld_glob I hg hm ?_ hdb)
  refine PySem.W.callWith_KW0 (h₀ := X.base) I.ok.mod.kin hk hall ?_ hpl
  refine thn (hkw.run pos pins s σ H _ I h) ?_
  intro ws s2 y
  obtain ⟨zs, H2, I2, rz, l1, l2, q2⟩ := y
  refine ⟨I2.kIn, ?_⟩
  rw [hks]
  exact runK (us := []) (vs := []) F z hb hx I2 .nil rz l1 l2 q2
theorem km {pl : Sem Bool} (c : Cls X.K C) (hm : Meth X.K C m f)
    (F : Fg X k f fd ps sp) (z : RoomG k X.A) (hb : KBnD X.K fd ps (n + 1) ks gV)
    (hx : Ps X E) (he : PE X o ta) (ha : PA X (e :: es) t) (hkw : PK X kws tk)
    (hall : (backToKw pos (keywordEach kws X.env)).all (·.1.isSome) = true := by rfl)
    (hks : (backToKw pos (keywordEach kws X.env)).filterMap (·.1) = ks := by rfl)
    (hst : starEach (e :: es) X.env = (false, eval e X.env) :: starEach es X.env := by rfl)
    (hpl : ((backTo pos (starEach (e :: es) X.env)).any (·.1) ||
      (backToKw pos (keywordEach kws X.env)).any (·.1.isNone)) = false := by rfl)
    (ht : eval (.Call (.Attribute o m apos) (e :: es) kws pos) X.env = (do
      let y ← eval o X.env
      standAt apos.atName
      let (g, a) ← holding [y] (getMethod y m pl)
      callWith pos g a (backTo pos (starEach (e :: es) X.env))
        (backToKw pos (keywordEach kws X.env))) := by rfl) :
    PE X (.Call (.Attribute o m apos) (e :: es) kws pos) (tMw C m n ks.length sp gV E ta t tk) := by
  obtain ⟨g, hb⟩ := hb
  constructor
  intro pins s σ H Q I h
  refine PySem.W.methodCall_KW (pl := pl) (thn (he.run pins s σ H _ I h) ?_) ht
  intro u s1 y
  obtain ⟨v, H1, I1, rx, a, dx, fs, ex, ea, l, q⟩ := y
  subst ex
  obtain rfl : u = Value.ref a := rx
  refine getmeth_ok I1 ea c hm l ?_
  refine PySem.W.callWith_KW (first := [.ref a]) (h₀ := X.base) I.ok.mod.kin hm.kp hall ?_ hpl hst
  refine thn (ha.run pos pins s1 σ H1 _ I1 q) ?_
  intro us s2 y
  obtain ⟨vs, H2, I2, r, q2⟩ := y
  refine thn (hkw.run pos pins s2 σ H2 _ I2 q2) ?_
  intro ws s3 y
  obtain ⟨zs, H3, I3, rz, l1, l2, q3⟩ := y
  refine ⟨I3.kIn, ?_⟩
  rw [hks]
  exact runK (us := .ref a :: us) (vs := .ref a :: vs) F z hb hx I3 (.cons rfl r) rz (by rw [List.length_cons, l1]) l2 q3
theorem km0 {pl : Sem Bool} (c : Cls X.K C) (hm : Meth X.K C m f)
    (F : Fg X k f fd ps sp) (z : RoomG k X.A) (hb : KBnD X.K fd ps 1 ks gV)
    (hx : Ps X E) (he : PE X o ta) (hkw : PK X kws tk)
    (hall : (backToKw pos (keywordEach kws X.env)).all (·.1.isSome) = true := by rfl)
    (hks : (backToKw pos (keywordEach kws X.env)).filterMap (·.1) = ks := by rfl)
    (hpl : ((backTo pos (starEach [] X.env)).any (·.1) ||
      (backToKw pos (keywordEach kws X.env)).any (·.1.isNone)) = false := by rfl)
    (ht : eval (.Call (.Attribute o m apos) [] kws pos) X.env = (do
      let y ← eval o X.env
      standAt apos.atName
      let (g, a) ← holding [y] (getMethod y m pl)
      callWith pos g a (backTo pos (starEach [] X.env))
        (backToKw pos (keywordEach kws X.env))) := by rfl) :
    PE X (.Call (.Attribute o m apos) [] kws pos) (tMw C m 0 ks.length sp gV E ta tNil tk) := by
  obtain ⟨g, hb⟩ := hb
  constructor
  intro pins s σ H Q I h
  refine PySem.W.methodCall_KW (pl := pl) (thn (he.run pins s σ H _ I h) ?_) ht
  intro u s1 y
  obtain ⟨v, H1, I1, rx, a, dx, fs, ex, ea, l, q⟩ := y
  subst ex
  obtain rfl : u = Value.ref a := rx
  refine getmeth_ok I1 ea c hm l ?_
  refine PySem.W.callWith_KW0 (first := [.ref a]) (h₀ := X.base) I.ok.mod.kin hm.kp hall ?_ hpl
  refine thn (hkw.run pos pins s1 σ H1 _ I1 q) ?_
  intro ws s3 y
  obtain ⟨zs, H3, I3, rz, l1, l2, q3⟩ := y
  refine ⟨I3.kIn, ?_⟩
  rw [hks]
  exact runK (us := [.ref a]) (vs := [.ref a]) F z hb hx I3 (.cons rfl .nil) rz (by rw [List.length_singleton]) l2 q3
/-- a new instance, then its __init__ -/
def Made (C : Addr) (sp : Sp) (E : XK) (H : Hp) (Q : VK) (vs : Addr → List V) : Prop :=
  ∀ x dx, H x = none → H dx = none → dx ≠ x →
    sp (vs x) (upd (upd H dx (.own x)) x (.ins C dx [])) (fun v H2 => v = .non ∧ Q (.ref x) H2) E
theorem runM {vs : Addr → List V} (M : Mk X.K C f) (F : Fg X k f fd ps sp)
    (z : RoomG (k + 1) X.A) (hx : Ps X E) (I : Inv X pins σ H s) {us0 : List Value} {kw : List (Str × Value)}
    {us : Addr → List Value} (hb : ∀ (s : Shared) (x : Addr), X.K.In s.heap → BindsTo s fd ⟨.ref x :: us0, kw⟩ (ps.zip (us x)))
    (h : Made C sp E H Q vs)
    (rv : ∀ x, Vals (vs x) (us x)) :
    wpAny (model X.prog X.w) X.A (call (.ref C) us0 kw) (EP X pins σ Q) X.xe s := by
  have hq := h (s.heap.objs.size + 1) s.heap.objs.size (I.hok.fresh (Nat.le_succ _)) (I.hok.fresh (Nat.le_refl _))
    (Nat.ne_of_lt (Nat.lt_succ_self _))
  have I2 := Inv.made (C := C) I
  refine wpAny_call (make_map (f := f) I.kIn M.makes M.init (beq_iff_eq.mp M.fn) (codeAny_mono
    (F.run _ X.stack _ _ ⟨.ref (s.heap.objs.size + 1) :: us0, kw⟩ _ _ _ E (z.make C us0 kw)
      (I2.env0.make C us0 kw) (hb _ _ I2.kIn) (rv _) hq) ?_))
  intro r s' q
  match r, q with
  | .error e, q => exact hx pins σ _ _ e s' I2 q
  | .ok (.ret u), q =>
    obtain ⟨v, H', I3, rv, ev, q3⟩ := I2.after q
    subst ev
    exact ⟨rv, ⟨V.ref (s.heap.objs.size + 1), H', I3, rfl, q3⟩⟩
  | .ok .next, q => exact False.elim q
  | .ok .brk, q => exact False.elim q
  | .ok .cont, q => exact False.elim q
def tMk (C : Addr) (sp : Sp) (dvs : List V) (E : XK) (t : TA) : TE := fun σ H Q => t σ H fun vs H1 =>
  Made C sp E H1 Q fun x => .ref x :: (vs ++ dvs)
def tMkK (C : Addr) (n m : Nat) (sp : Sp) (gV : List V → List V → List V) (E : XK) (t tk : TA) : TE := fun σ H Q =>
  t σ H fun vs H1 => tk σ H1 fun zs H2 => vs.length = n ∧ zs.length = m ∧ Made C sp E H2 Q fun x => gV (.ref x :: vs) zs
theorem made_len {vs : Addr → List V} (F : Fg X k f fd ps sp) (I : Inv X pins σ H s) (h : Made C sp E H Q vs) :
    ∃ x, (vs x).length = ps.length := by
  have hq := h (s.heap.objs.size + 1) s.heap.objs.size (I.hok.fresh (Nat.le_succ _)) (I.hok.fresh (Nat.le_refl _))
    (Nat.ne_of_lt (Nat.lt_succ_self _))
  exact ⟨_, F.len _ _ _ _ hq⟩
theorem mk1 (M : Mk X.K C f) (F : Fg X k f fd ps sp) (z : RoomG (k + 1) X.A) (hg : Gl X x)
    (hm : X.mg x = some (.ref C)) (hb : BindsD X.K fd ps dvs) (hx : Ps X E) (ha : PA X (e :: es) t)
    (hdb : (x == ("__debug__" : Str)) = false := by decide)
    (he : starEach (e :: es) X.env = (false, eval e X.env) :: starEach es X.env := by rfl)
    (hpl : (backTo pos (starEach es X.env)).any (·.1) = false := by rfl) :
    PE X (.Call (.Name x p) (e :: es) [] pos) (tMk C sp dvs E t) := by
  obtain ⟨ds, hd, hb⟩ := hb
  constructor
  intro pins s σ H Q I h
  refine wpAny_Call_Name_kw (ld_glob I hg hm ?_ hdb)
  refine PySem.W.callWith_K (h₀ := X.base) I.ok.mod.kin M.kp ?_ he hpl
  refine thn (ha.run pos pins s σ H _ I h) ?_
  intro us s1 y
  obtain ⟨vs, H1, I1, r, q⟩ := y
  refine ⟨I1.kIn, ?_⟩
  obtain ⟨x0, hl⟩ := made_len F I1 q
  refine runM (us := fun x => .ref x :: (us ++ ds)) M F z hx I1 ?_ q (fun x => .cons rfl (r.append hd))
  intro s2 x2 kin
  refine hb s2 (.ref x2 :: us) kin ?_
  rw [← hl]
  have e1 := r.length
  have e2 := hd.length
  simp only [List.length_cons, List.length_append, List.cons_append] at *
  omega
theorem mk0 (M : Mk X.K C f) (F : Fg X k f fd ps sp) (z : RoomG (k + 1) X.A) (hg : Gl X x)
    (hm : X.mg x = some (.ref C)) (hb : BindsD X.K fd ps dvs) (hx : Ps X E)
    (hdb : (x == ("__debug__" : Str)) = false := by decide) :
    PE X (.Call (.Name x p) [] [] pos) (tMk C sp dvs E tNil) := by
  obtain ⟨ds, hd, hb⟩ := hb
  constructor
  intro pins s σ H Q I h
  refine wpAny_Call_Name_kw (ld_glob I hg hm ?_ hdb)
  refine PySem.W.callWith_K0 I.kIn M.kp ?_
  obtain ⟨x0, hl⟩ := made_len F I h
  refine runM (us0 := []) (us := fun x => .ref x :: ([] ++ ds)) M F z hx I ?_ h (fun x => .cons rfl (Vals.append .nil hd))
  intro s2 x2 kin
  refine hb s2 [.ref x2] kin ?_
  rw [← hl]
  have e2 := hd.length
  simp only [List.length_cons, List.length_append, List.cons_append, List.length_nil, List.nil_append] at *
  omega
theorem mkK (M : Mk X.K C f) (F : Fg X k f fd ps sp) (z : RoomG (k + 1) X.A) (hg : Gl X x)
    (hm : X.mg x = some (.ref C)) (hb : KBnD X.K fd ps (n + 1) ks gV) (hx : Ps X E) (ha : PA X (e :: es) t)
    (hkw : PK X kws tk)
    (hall : (backToKw pos (keywordEach kws X.env)).all (·.1.isSome) = true := by rfl)
    (hks : (backToKw pos (keywordEach kws X.env)).filterMap (·.1) = ks := by rfl)
    (hdb : (x == ("__debug__" : Str)) = false := by decide)
    (he : starEach (e :: es) X.env = (false, eval e X.env) :: starEach es X.env := by rfl)
    (hpl : ((backTo pos (starEach (e :: es) X.env)).any (·.1) ||
      (backToKw pos (keywordEach kws X.env)).any (·.1.isNone)) = false := by rfl) :
    PE X (.Call (.Name x p) (e :: es) kws pos) (tMkK C n ks.length sp gV E t tk) := by
  obtain ⟨g, hb⟩ := hb
  constructor
  intro pins s σ H Q I h
  refine wpAny_Call_Name_kw (ld_glob I hg hm ?_ hdb)
  refine PySem.W.callWith_KW (h₀ := X.base) I.ok.mod.kin M.kp hall ?_ hpl he
  refine thn (ha.run pos pins s σ H _ I h) ?_
  intro us s1 y
  obtain ⟨vs, H1, I1, r, q⟩ := y
  refine thn (hkw.run pos pins s1 σ H1 _ I1 q) ?_
  intro ws s2 y
  obtain ⟨zs, H2, I2, rz, l1, l2, q2⟩ := y
  refine ⟨I2.kIn, ?_⟩
  rw [hks]
  refine runM (us := fun x => g (.ref x :: us) ws) M F z hx I2 ?_ q2 (fun x => hb.rel (.cons rfl r) rz)
  intro s3 x3 kin
  refine hb.to s3 (.ref x3 :: us) ws kin ?_ (rz.length.symm.trans l2)
  rw [List.length_cons, ← r.length, l1]
theorem mkK0 (M : Mk X.K C f) (F : Fg X k f fd ps sp) (z : RoomG (k + 1) X.A) (hg : Gl X x)
    (hm : X.mg x = some (.ref C)) (hb : KBnD X.K fd ps 1 ks gV) (hx : Ps X E)
    (hkw : PK X kws tk)
    (hall : (backToKw pos (keywordEach kws X.env)).all (·.1.isSome) = true := by rfl)
    (hks : (backToKw pos (keywordEach kws X.env)).filterMap (·.1) = ks := by rfl)
    (hdb : (x == ("__debug__" : Str)) = false := by decide)
    (hpl : ((backTo pos (starEach [] X.env)).any (·.1) ||
      (backToKw pos (keywordEach kws X.env)).any (·.1.isNone)) = false := by rfl) :
    PE X (.Call (.Name x p) [] kws pos) (tMkK C 0 ks.length sp gV E tNil tk) := by
  obtain ⟨g, hb⟩ := hb
  constructor
  intro pins s σ H Q I h
  refine wpAny_Call_Name_kw (ld_glob I hg hm ?_ hdb)
  refine PySem.W.callWith_KW0 (h₀ := X.base) I.ok.mod.kin M.kp hall ?_ hpl
  refine thn (hkw.run pos pins s σ H _ I h) ?_
  intro ws s2 y
  obtain ⟨zs, H2, I2, rz, l1, l2, q2⟩ := y
  refine ⟨I2.kIn, ?_⟩
  rw [hks]
  refine runM (us0 := []) (us := fun x => g [.ref x] ws) M F z hx I2 ?_ q2 (fun x => hb.rel (.cons rfl .nil) rz)
  intro s3 x3 kin
  exact hb.to s3 [.ref x3] ws kin rfl (rz.length.symm.trans l2)
end
section
variable {P : Program} {w : World} {K : PySem.W.Frag} {mg : Str → Option Value} {base : Heap}
theorem okD {x qual : Str} {params : Arguments} {body : List Stmt} {scope : Scope} {dvs : List V} {kws : List (Str × V)}
    {f : Addr} {fd : FuncData} {N ps : List Str} {k : Nat} {sp : Sp}
    (F : FunD K x qual params body scope dvs kws f fd) (S : FnScope N ps scope)
    (len : ∀ vs H Q E, sp vs H Q E → vs.length = ps.length)
    (hb : ∀ (cdv : Value) (A : Around) (outer : List Env) (s : Shared) (H : Hp) (vs : List V)
      (Q : VK) (E : XK), RoomG k (A.deeper (envOfC qual scope s.heap.objs.size f cdv)) →
      sp vs H Q E →
      ∃ t, PSs (cxOf (L2.CX P w) P w K mg base N qual scope f cdv A outer s H E) body t ∧
        t { nx := fun _ H' => Q .non H', rt := Q } (start N vs) H) :
    FnG P w K mg base (k + 1) f fd ps sp := by
  obtain ⟨oc, od, dV, kV, doc, pm, an, cdv, ct, osl, rfl, lk, hcd, _, _⟩ := F.ex
  exact FnG.body lk hcd S len fun A outer s H vs Q E z h => hb cdv A outer s H vs Q E z h
end
/-! readings of these -/
section
variable {K : PySem.W.Frag} {σ : L2.St} {H : Hp} {Q : VK} {D : Ends} {a C dx p : Addr} {fs : List (Str × V)} {f m : Str} {v : V}
variable {ta tv : TE} {t tk : TA} {sp : Sp} {E : XK} {vs zs : List V} {gV : List V → List V → List V} {n k : Nat}
def MethR (C : Addr) (m : Str) (sp : Sp) (E : XK) (t : TA) (σ : L2.St) (x : V) (H1 : Hp) (Q : VK) : Prop :=
  ∃ a dx fs, x = .ref a ∧ H1 a = some (.ins C dx fs) ∧ fs.lookup m = none ∧ t σ H1 fun vs H2 => sp (x :: vs) H2 Q E
theorem i_meth (h : ta σ H fun x H1 => MethR C m sp E t σ x H1 Q) : tMeth C m sp [] E ta t σ H Q := by
  unfold tMeth
  simp only [List.append_nil]
  exact h
theorem i_methR (ho : H a = some (.ins C dx fs)) (hl : fs.lookup m = none)
    (h : t σ H fun vs H2 => sp (.ref a :: vs) H2 Q E) : MethR C m sp E t σ (.ref a) H Q := ⟨a, dx, fs, rfl, ho, hl, h⟩
def MethW (C : Addr) (nm : Str) (n m : Nat) (sp : Sp) (gV : List V → List V → List V) (E : XK) (t tk : TA) (σ : L2.St) (x : V)
    (H1 : Hp) (Q : VK) : Prop := ∃ a dx fs, x = .ref a ∧ H1 a = some (.ins C dx fs) ∧ fs.lookup nm = none ∧
    t σ H1 fun vs H2 => tk σ H2 fun zs H3 => vs.length = n ∧ zs.length = m ∧ sp (gV (x :: vs) zs) H3 Q E
theorem i_methW (h : ta σ H fun x H1 => MethW C m n k sp gV E t tk σ x H1 Q) : tMw C m n k sp gV E ta t tk σ H Q := h
theorem i_methWR (ho : H a = some (.ins C dx fs)) (hl : fs.lookup m = none)
    (h : t σ H fun vs H2 => tk σ H2 fun zs H3 => vs.length = n ∧ zs.length = k ∧ sp (gV (.ref a :: vs) zs) H3 Q E) :
    MethW C m n k sp gV E t tk σ (.ref a) H Q := ⟨a, dx, fs, rfl, ho, hl, h⟩
theorem i_lens {P : Prop} (h1 : vs.length = n) (h2 : zs.length = k) (h : P) : vs.length = n ∧ zs.length = k ∧ P := ⟨h1, h2, h⟩
theorem i_kw (h : t σ H fun vs H1 => tk σ H1 fun zs H2 => vs.length = n ∧ zs.length = k ∧ sp (gV vs zs) H2 Q E) :
    tKw n k sp gV E t tk σ H Q := h
theorem i_mk (h : t σ H fun vs H1 => Made C sp E H1 Q fun x => .ref x :: vs) : tMk C sp [] E t σ H Q := by
  unfold tMk
  simp only [List.append_nil]
  exact h
theorem i_mkD {dvs : List V} (h : t σ H fun vs H1 => Made C sp E H1 Q fun x => .ref x :: (vs ++ dvs)) : tMk C sp dvs E t σ H Q := h
theorem i_mkK (h : t σ H fun vs H1 => tk σ H1 fun zs H2 => vs.length = n ∧ zs.length = k ∧
    Made C sp E H2 Q fun x => gV (.ref x :: vs) zs) : tMkK C n k sp gV E t tk σ H Q := h
/-- an attribute -/
def FldR (K : PySem.W.Frag) (f : Str) (x : V) (H1 : Hp) (Q : VK) : Prop := ∃ a C dx fs v, x = .ref a ∧
  H1 a = some (.ins C dx fs) ∧ Cls K C ∧ NoAttr K C f ∧ fs.lookup f = some v ∧ Q v H1
theorem i_fld (h : ta σ H fun x H1 => FldR K f x H1 Q) : tFld K ta f σ H Q := h
theorem i_fldR (ho : H a = some (.ins C dx fs)) (c : Cls K C) (n : NoAttr K C f) (hl : fs.lookup f = some v)
    (h : Q v H) : FldR K f (.ref a) H Q := ⟨a, C, dx, fs, v, rfl, ho, c, n, hl, h⟩
def FldS (K : PySem.W.Frag) (f : Str) (y x : V) (D : Ends) (σ : L2.St) (H2 : Hp) : Prop := ∃ a C dx fs, x = .ref a ∧
  H2 a = some (.ins C dx fs) ∧ Cls K C ∧ NoAttr K C f ∧ fs.length < 1000 ∧ D.nx σ (upd H2 a (.ins C dx (putF f y fs)))
theorem i_fldS (h : tv σ H fun y H1 => ta σ H1 fun x H2 => FldS K f y x D σ H2) : sFld K ta tv f D σ H := h
theorem i_fldSR {y : V} (ho : H a = some (.ins C dx fs)) (c : Cls K C) (n : NoAttr K C f) (hl : fs.length < 1000)
    (h : D.nx σ (upd H a (.ins C dx (putF f y fs)))) : FldS K f y (.ref a) D σ H := ⟨a, C, dx, fs, rfl, ho, c, n, hl, h⟩
end
end G
namespace G
open PySem PySem.Spec PyProof.Rows L2
/-! the facts of the top -/
section
variable {K : PySem.W.Frag} {x qual : Str} {st : Stmt} {f D : Addr} {oc : Value} {od an : Option Addr} {osl : Array (Option Value)}
variable {kV doc pm cdv ct : Value} {ps : List Str}
theorem fund0 (l : K.lookup f = some ⟨oc, od, .func (PySem.W.fnOf x qual (defArgs st) (defBody st)
      (defScope st) .none kV doc pm an cdv ct), osl⟩)
    (c : PySem.W.codeIn K cdv qual = true) (k : PySem.W.keepIn K (.ref f) = true) :
    FunD K x qual (defArgs st) (defBody st) (defScope st) [] [] f
      (PySem.W.fnOf x qual (defArgs st) (defBody st) (defScope st) .none kV doc pm an cdv ct) :=
  ⟨⟨oc, od, .none, kV, doc, pm, an, cdv, ct, osl, rfl, l, c, .inl ⟨rfl, rfl⟩, .inl rfl⟩, k⟩
theorem fund1 {kws : List (Str × V)} (l : K.lookup f = some ⟨oc, od, .func (PySem.W.fnOf x qual (defArgs st) (defBody st)
      (defScope st) .none (.ref D) doc pm an cdv ct), osl⟩)
    (c : PySem.W.codeIn K cdv qual = true) (k : PySem.W.keepIn K (.ref f) = true)
    (q : ∀ q ∈ kws, ∃ u, PySem.W.nsIn K D q.1 = some (some u) ∧ RelV q.2 u) :
    FunD K x qual (defArgs st) (defBody st) (defScope st) [] kws f
      (PySem.W.fnOf x qual (defArgs st) (defBody st) (defScope st) .none (.ref D) doc pm an cdv ct) :=
  ⟨⟨oc, od, .none, .ref D, doc, pm, an, cdv, ct, osl, rfl, l, c, .inl ⟨rfl, rfl⟩, .inr ⟨D, rfl, q⟩⟩, k⟩
theorem kw_one {nm : Str} {v : V} {u : Value} (e : PySem.W.nsIn K D nm = some (some u)) (r : RelV v u) :
    ∀ q ∈ [(nm, v)], ∃ u, PySem.W.nsIn K D q.1 = some (some u) ∧ RelV q.2 u := fun q hq => by
  rw [List.mem_singleton.mp hq]
  exact ⟨u, e, r⟩
theorem kw_more {nm : Str} {v : V} {u : Value} {l : List (Str × V)} (e : PySem.W.nsIn K D nm = some (some u)) (r : RelV v u)
    (h : ∀ q ∈ l, ∃ u, PySem.W.nsIn K D q.1 = some (some u) ∧ RelV q.2 u) :
    ∀ q ∈ (nm, v) :: l, ∃ u, PySem.W.nsIn K D q.1 = some (some u) ∧ RelV q.2 u := fun q hq => by
  rcases List.mem_cons.mp hq with z | z
  · rw [z]
    exact ⟨u, e, r⟩
  · exact h q z
/-- positional values, then by places of what the keywords and the defaults give -/
def gp (idx : List Nat) {α : Type} (vs mz zs : List α) : List α := vs ++ idx.filterMap fun i => (zs ++ mz)[i]?
theorem vals_idx {vs : List V} {us : List Value} (r : Vals vs us) : ∀ idx : List Nat,
    Vals (idx.filterMap fun i => vs[i]?) (idx.filterMap fun i => us[i]?)
  | [] => .nil
  | i :: idx => by
    have ih := vals_idx r idx
    cases e : vs[i]? with
    | none =>
      have e2 := Vals.none_of r e
      rw [List.filterMap_cons_none e, List.filterMap_cons_none e2]
      exact ih
    | some v =>
      obtain ⟨u, e2, q⟩ := Vals.get r e
      rw [List.filterMap_cons_some e, List.filterMap_cons_some e2]
      exact .cons q ih
theorem gp_rel (idx : List Nat) {vs mz zs : List V} {us mv ws : List Value} (r : Vals vs us) (r1 : Vals mz mv) (r2 : Vals zs ws) :
    Vals (gp idx vs mz zs) (gp idx us mv ws) := r.append (vals_idx (r2.append r1) idx)
variable {params : Arguments} {body : List Stmt} {scope : Scope} {fd : FuncData} {kws : List (Str × V)}
theorem bindN (F : FunD K x qual params body scope [] [] f fd)
    (h : ∀ (kV doc pm : Value) (an : Option Addr) (cdv ct : Value) (us : List Value), us.length = ps.length →
      bindArgs (PySem.W.fnOf x qual params body scope .none kV doc pm an cdv ct) ⟨us, []⟩ = pure (ps.zip us)) :
    BindsD K fd ps [] := BindsD.plain (F.bindsN h)
theorem bindK (F : FunD K x qual params body scope [] kws f fd) (n : Nat) (hk : kws ≠ []) (hn : n + kws.length = ps.length)
    (h : ∀ (D : Addr) (doc pm : Value) (an : Option Addr) (cdv ct : Value) (us ks : List Value), us.length = n →
      ks.length = kws.length → KwChain D ((kws.map (·.1)).zip ks)
        (bindArgs (PySem.W.fnOf x qual params body scope .none (.ref D) doc pm an cdv ct) ⟨us, []⟩) (ps.zip (us ++ ks))) :
    BindsD K fd ps (kws.map (·.2)) := F.binds0 n hk hn h
theorem kbN (F : FunD K x qual params body scope [] [] f fd) (n : Nat) (ks : List Str) (idx : List Nat)
    (h : ∀ (kV doc pm : Value) (an : Option Addr) (cdv ct : Value) (us ws : List Value), us.length = n →
      ws.length = ks.length → bindArgs (PySem.W.fnOf x qual params body scope .none kV doc pm an cdv ct) ⟨us, ks.zip ws⟩ =
        pure (ps.zip (gp idx us [] ws))) : KBnD K fd ps n ks (fun vs zs => gp idx vs [] zs) := by
  refine ⟨fun us ws => gp idx us [] ws, ?_, fun r1 r2 => gp_rel idx r1 .nil r2⟩
  intro s us ws kin l1 l2
  obtain ⟨oc, od, dV, kV, doc, pm, an, cdv, ct, osl, rfl, lk, hcd, hD, hK⟩ := F.ex
  rcases hD with ⟨_, rfl⟩ | ⟨e, _⟩
  · exact .of_eq (h kV doc pm an cdv ct us ws l1 l2)
  · exact absurd rfl e
theorem kbK (F : FunD K x qual params body scope [] kws f fd) (n : Nat) (ks : List Str) (ms : List (Str × V)) (idx : List Nat)
    (hk : kws ≠ []) (hms : ∀ q ∈ ms, q ∈ kws)
    (h : ∀ (D : Addr) (doc pm : Value) (an : Option Addr) (cdv ct : Value) (us mv ws : List Value), us.length = n →
      mv.length = ms.length → ws.length = ks.length → KwChain D ((ms.map (·.1)).zip mv)
        (bindArgs (PySem.W.fnOf x qual params body scope .none (.ref D) doc pm an cdv ct) ⟨us, ks.zip ws⟩)
        (ps.zip (gp idx us mv ws))) : KBnD K fd ps n ks (fun vs zs => gp idx vs (ms.map (·.2)) zs) := by
  obtain ⟨mv, h⟩ := F.kbinds0 n ks ms (fun vs mz zs => gp idx vs mz zs) hk hms (fun r r1 r2 => gp_rel idx r r1 r2) h
  exact ⟨_, h⟩
end
end G
namespace G
open PySem PySem.Spec PyProof.Rows L2
section
variable {X : Cx} {K : PySem.W.Frag} {k n : Nat} {f C : Addr} {fd : FuncData} {ps : List Str} {sp : Sp}
variable {dvs : List V} {E : XK} {x m : Str} {p pos pos' : Pos} {e o value : Expr} {fl : Str} {ta tv : TE}
theorem d0 (F : Fg X k f fd ps sp) (z : RoomG k X.A) (hg : Gl X x) (hm : X.mg x = some (.ref f))
    (hk : PySem.W.keepIn X.K (.ref f) = true) (hb : BindsD X.K fd ps dvs)
    (hx : Ps X E) (hdb : (x == ("__debug__" : Str)) = false := by decide) :
    PE X (.Call (.Name x p) [] [] pos) (tCall sp dvs E tNil) := by
  obtain ⟨ds, hd, hb⟩ := hb
  exact c0 F z hg hm hk hb hd hx hdb
theorem k_sfld (h : X.K = K) (ha : PE X o ta) (hv : PE X value tv)
    (hs : swapsWith value (some (.Attribute o fl pos')) pos.line X.env = pure false) :
    PS X (.Assign [.Attribute o fl pos'] value pos) (sFld K ta tv fl) := h ▸ ps_fld ha hv hs
theorem k_pzip {e2 : Expr} {t : TA} {tpos : Pos} {elts : List Expr} {kk : Nat} (h : X.K = K) (hg : Gl X "zip") (hm : X.mg "zip" = none)
    (ha : PA X [e, e2] t) (hs : starEach [e, e2] X.env = (false, eval e X.env) :: starEach [e2] X.env := by rfl)
    (hpl : (backTo pos (starEach [e2] X.env)).any (·.1) = false := by rfl) :
    PI X (.Tuple elts kk tpos) (.Call (.Name "zip" p) [e, e2] [] pos) (iZip K t) := h ▸ pi_zip hg hm ha hs hpl
end
section
variable {K : PySem.W.Frag} {σ : L2.St} {H H1 : Hp} {Q : VK} {D : Ends} {tb : TS} {te : TE} {tt : TT} {g : TG}
variable {a b p q l C dx : Addr} {xs ys vs us : List V} {v x y : V} {fs : List (Str × V)} {f m : Str} {t ta : TE} {tr : TA} {sp : Sp} {E : XK}
variable {dvs : List V} {vn : List Nat}
theorem i_methD {t : TA} (h : ta σ H fun x H1 => MethR C m sp E (fun σ H Q => t σ H fun vs H' => Q (vs ++ dvs) H') σ x H1 Q) :
    tMeth C m sp dvs E ta t σ H Q := h
theorem i_isNn (h : Q (.bl true) H) : rIsN .non .non H Q := ⟨rfl, h⟩
theorem i_isNr (h : Q (.bl false) H) : rIsN (.ref a) .non H Q := ⟨rfl, h⟩
theorem i_isNi {n : Int} (h : Q (.bl false) H) : rIsN (.int n) .non H Q := ⟨rfl, h⟩
theorem i_notNn (h : Q (.bl false) H) : rNotN .non .non H Q := ⟨rfl, h⟩
theorem i_notNr (h : Q (.bl true) H) : rNotN (.ref a) .non H Q := ⟨rfl, h⟩
theorem i_notNi {n : Int} (h : Q (.bl true) H) : rNotN (.int n) .non H Q := ⟨rfl, h⟩
/-- a for over zip of two lists -/
def ForZ (K : PySem.W.Frag) (ws : List V) (g : TG) (tb : TS) (D : Ends) (σ : L2.St) (H : Hp) : Prop :=
  ∃ a b xs ys, ws = [.ref a, .ref b] ∧ SqL K H a xs ∧ SqL K H b ys ∧ ∃ W : Nat → Nat → L2.St → Hp → Prop,
    (∃ m, W 0 m σ H) ∧ ∀ i m σ H, W i m σ H → ((Itz K a b).stop i H ∧ D.nx σ H) ∨
      ((Itz K a b).go i H ∧ ∃ Nx : L2.St → Hp → Prop,
        (∀ σ' H', Nx σ' H' → ∃ m', m' < m ∧ W (i + 1) m' σ' H') ∧
        ∀ x H', (Itz K a b).yld i H x H' → g x σ H' fun σ2 H2 =>
          tb { D with nx := Nx, ct := Nx, bk := D.nx } σ2 H2)
theorem i_forZ (h : tr σ H fun ws H1 => ForZ K ws g tb D σ H1) : tFor (iZip K tr) g tb D σ H := h
theorem i_both (hx : SqL K H a xs) (hy : SqL K H b ys) (Pv : Nat → L2.St → Hp → Prop) (h0 : Pv 0 σ H)
    (hl : ∀ i σ H, Pv i σ H → SqL K H a xs ∧ SqL K H b ys)
    (st : ∀ i x y T σ H, xs[i]? = some x → ys[i]? = some y → Pv i σ H → Fr H T → g (.ref T) σ (upd H T (.tup [x, y])) fun σ2 H2 =>
      tb { D with nx := Pv (i + 1), ct := Pv (i + 1), bk := D.nx } σ2 H2)
    (hd : ∀ σ H, Pv (min xs.length ys.length) σ H → D.nx σ H) : ForZ K [.ref a, .ref b] g tb D σ H := by
  refine ⟨a, b, xs, ys, rfl, hx, hy, fun i m σ H => m = min xs.length ys.length - i ∧ i ≤ min xs.length ys.length ∧ Pv i σ H,
    ⟨_, rfl, Nat.zero_le _, h0⟩, ?_⟩
  rintro i m σ H ⟨rfl, hi, z⟩
  obtain ⟨qx, qy⟩ := hl i σ H z
  by_cases c : i < min xs.length ys.length
  · have c1 : i < xs.length := by omega
    have c2 : i < ys.length := by omega
    refine .inr ⟨⟨xs, ys, _, _, qx, qy, List.getElem?_eq_getElem c1, List.getElem?_eq_getElem c2⟩, Pv (i + 1),
      fun σ' H' w => ⟨_, by omega, rfl, by omega, w⟩, ?_⟩
    rintro v H' ⟨T, x', y', rfl, hT, rfl, f1, f2⟩
    exact st i x' y' T σ H (f1 xs qx) (f2 ys qy) z ⟨hT⟩
  · have e : i = min xs.length ys.length := by omega
    refine .inl ⟨⟨xs, ys, qx, qy, by omega⟩, hd σ H (by rw [← e]; exact z)⟩
/-- a comprehension over zip of two lists -/
def LcZ (K : PySem.W.Frag) (ws : List V) (g : TG) (tt : TT) (te : TE) (vs : List Nat) (σ : L2.St) (H1 : Hp) (Q : VK) : Prop :=
  ∃ a b xs ys, ws = [.ref a, .ref b] ∧ SqL K H1 a xs ∧ SqL K H1 b ys ∧ ∀ D, H1 D = none →
    ∃ W : Nat → Nat → Hp → Prop, (∃ m, W 0 m (upd H1 D (.lst []))) ∧ ∀ i m H, W i m H →
      ((Itz K a b).stop i H ∧ Q (.ref D) H) ∨ ((Itz K a b).go i H ∧ ∃ Nx : Hp → Prop,
        (∀ H', Nx H' → ∃ m', m' < m ∧ W (i + 1) m' H') ∧
        ∀ x H', (Itz K a b).yld i H x H' → g x (wipe σ vs) H' fun σ2 H2 => wipe σ2 vs = wipe σ vs ∧ tt σ2 H2 fun b H3 =>
          if b = true then te σ2 H3 fun y H4 => ∃ acc, H4 D = some (.lst acc) ∧ acc.length < sizeLine ∧
            Nx (upd H4 D (.lst (acc ++ [y]))) else Nx H3)
theorem i_lcZ (h : tr σ H fun ws H1 => LcZ K ws g tt te vn σ H1 Q) : tLc (iZip K tr) g tt te vn σ H Q := h
theorem i_eltz (hx : SqL K H a xs) (hy : SqL K H b ys) (Pv : Addr → Nat → Hp → Prop)
    (h0 : ∀ D, Fr H D → Pv D 0 (upd H D (.lst [])))
    (hl : ∀ D i H', Fr H D → Pv D i H' → SqL K H' a xs ∧ SqL K H' b ys)
    (st : ∀ D i x y T H', Fr H D → xs[i]? = some x → ys[i]? = some y → Pv D i H' → Fr H' T →
      g (.ref T) (wipe σ vn) (upd H' T (.tup [x, y])) fun σ2 H2 =>
      wipe σ2 vn = wipe σ vn ∧ tt σ2 H2 fun b H3 => if b = true then te σ2 H3 fun y H4 =>
        ∃ acc, H4 D = some (.lst acc) ∧ acc.length < sizeLine ∧ Pv D (i + 1) (upd H4 D (.lst (acc ++ [y])))
        else Pv D (i + 1) H3)
    (hd : ∀ D H', Fr H D → Pv D (min xs.length ys.length) H' → Q (.ref D) H') : LcZ K [.ref a, .ref b] g tt te vn σ H Q := by
  refine ⟨a, b, xs, ys, rfl, hx, hy, fun D hD => ⟨fun i m H => m = min xs.length ys.length - i ∧ i ≤ min xs.length ys.length ∧ Pv D i H,
    ⟨_, rfl, Nat.zero_le _, h0 D ⟨hD⟩⟩, ?_⟩⟩
  rintro i m H ⟨rfl, hi, z⟩
  obtain ⟨qx, qy⟩ := hl D i H ⟨hD⟩ z
  by_cases c : i < min xs.length ys.length
  · have c1 : i < xs.length := by omega
    have c2 : i < ys.length := by omega
    refine .inr ⟨⟨xs, ys, _, _, qx, qy, List.getElem?_eq_getElem c1, List.getElem?_eq_getElem c2⟩, Pv D (i + 1),
      fun H' w => ⟨_, by omega, rfl, by omega, w⟩, ?_⟩
    rintro v H' ⟨T, x', y', rfl, hT, rfl, f1, f2⟩
    exact st D i x' y' T H ⟨hD⟩ (f1 xs qx) (f2 ys qy) z ⟨hT⟩
  · have e : i = min xs.length ys.length := by omega
    refine .inl ⟨⟨xs, ys, qx, qy, by omega⟩, hd D H ⟨hD⟩ (by rw [← e]; exact z)⟩
/-- [v] * n -/
theorem i_rep {n : Int} (h : H l = some (.lst [v])) (h0 : 0 ≤ n) (h1 : n ≤ 1000000)
    (q : New H fun p => Q (.ref p) (upd H p (.lst (List.replicate n.toNat v)))) : rRep (.ref l) (.int n) H Q := by
  refine ⟨l, n, [v], rfl, rfl, h, by omega, by omega, ?_, fun p hp => ?_⟩
  · have e : ([v] : List V).length * n.toNat ≤ 1000000 := by
      rw [List.length_singleton]
      omega
    exact Nat.le_trans e (by decide)
  · have e : (List.replicate n.toNat [v]).flatten = List.replicate n.toNat v := by
      induction n.toNat with
      | zero => rfl
      | succ k ih => rw [List.replicate_succ, List.flatten_cons, ih, List.replicate_succ]; rfl
    rw [e]
    exact q p hp
/-- an object's entry -/
theorem Kp.upi {ws : List Addr} {H0 H1 : Hp} (k : Kp ws H0 H1) (h : H1 p = some (.ins C dx fs)) (hp : p ∈ ws) {o : HO} : Kp ws H0 (L2.upd H1 p o) :=
  k.trans (Kp.mut h (fun z => z) hp)
end
/-! ### runs and cells -/
def cells (ps : List (Int × Int)) : List Int := ps.flatMap fun p => List.replicate p.1.toNat p.2
def tag (c : Int) : Int × Int := (1, c)
end G
namespace G
open PySem PySem.Spec PyProof.Rows L2
section
variable {K : PySem.W.Frag} {σ : L2.St} {H H1 : Hp} {Q : VK} {a b p q l m C dx : Addr} {xs ys : List V} {fs : List (Str × V)} {o : HO}
variable {ds : List PyData} {ws : List Addr}
theorem i_addL (hx : H a = some (.lst xs)) (hy : H b = some (.lst ys)) (hz : xs.length + ys.length ≤ 1000000)
    (h : New H fun p => Q (.ref p) (upd H p (.lst (xs ++ ys)))) : uAdd K (.ref a) (.ref b) H Q :=
  .inr (.inr (.inl ⟨a, b, xs, ys, rfl, rfl, hx, hy, Nat.le_trans hz (by decide), h⟩))
theorem ld_ins (h : LD K H l ds) (hi : imms ds = true) (hq : H q = some (.ins C dx fs)) : LD K (upd H q o) l ds := by
  have k : Kp [q] H (L2.upd H q o) := Kp.mut hq (fun z => z) List.mem_cons_self
  refine h.kp k hi (not_one ?_)
  obtain ⟨vs, e, _⟩ := h
  intro z
  rw [z, hq] at e
  cases e
end
end G
namespace G
open L2 PySem
theorem fs_few {fs : List (Str × V)} (h : fs.length.blt 1000 = true) : fs.length < 1000 := by
  rw [Nat.blt_eq] at h
  exact h
end G
namespace G
open L2 PySem
theorem ld_push {K : PySem.W.Frag} {H0 H1 : Hp} {l : Addr} {vs : List V} {y : V} {ds : List PyData} {d : PyData} {ws : List Addr}
    (kp : Kp ws H0 H1) (h : DpAll K H0 vs ds) (hi : imms ds = true) (hv : H1 l = some (.lst (vs ++ [y]))) (hd : Dp K H1 y d) :
    LD K H1 l (ds ++ [d]) := ⟨_, hv, dpa_app (dpa_imm kp _ _ hi h) (dpa_one hd)⟩
end G
namespace G
open PySem PySem.Spec PyProof.Rows L2
/-! slices: read and written -/
section
variable {X : Cx} {o : Expr} {lo hi : Option Expr} {to : TE} {tl th : TO} {pos p2 : Pos}
def CutS (x : V) (i j : Option Int) (v : V) (H : Hp) (P : Hp → Prop) : Prop := ∃ l b xs ys a c, x = .ref l ∧ v = .ref b ∧
  i = some a ∧ j = some c ∧ H l = some (.lst xs) ∧ H b = some (.lst ys) ∧ l ≠ b ∧ 0 ≤ a ∧ a ≤ c ∧ c ≤ xs.length ∧
  xs.length + ys.length ≤ sizeLine ∧ P (upd H l (.lst (xs.take a.toNat ++ ys ++ xs.drop c.toNat)))
def gCut (to : TE) (tl th : TO) : TG := fun v σ H S => to σ H fun x H1 => tl σ H1 fun i H2 => th σ H2 fun j H3 =>
  CutS x i j v H3 fun H4 => S σ H4
theorem pg_cut (ho : PE X o to) (hl : PO X lo tl) (hu : PO X hi th)
    (ha : ∀ v, assign (.Subscript o (.Slice lo hi none p2) pos) X.env v = (do
      let ov ← holding [v] (eval o X.env)
      let iv ← holding [v, ov] (eval (.Slice lo hi none p2) X.env)
      standAt pos
      holding [v, ov, iv] (setItem ov iv v)
      release [iv, v, ov] []) := by intro _; rfl) :
    PG X (.Subscript o (.Slice lo hi none p2) pos) (gCut to tl th) := by
  constructor
  intro pins s σ H v u Q I r h
  rw [ha]
  refine wpAny_bind (wpAny_holding (thn (ho.run pins s σ H _ I h) ?_))
  rintro ov s1 ⟨x, H1, I1, r1, q1⟩
  refine wpAny_bind (wpAny_holding (PySem.wpAny_Slice (thn (hl.run pins s1 σ H1 _ I1 q1) ?_)))
  rintro vl s2 ⟨i, H2, I2, pl, q2⟩
  refine thn (hu.run pins s2 σ H2 _ I2 q2) ?_
  rintro vu s3 ⟨j, H3, I3, pu, q3⟩
  rw [evalPart_none]
  refine wpAny_pure ?_
  have I4 : Inv X pins σ H3 { s3 with heap := s3.heap.push { cls := .type "slice", data := .fields #[vl, vu, .none] } } :=
    I3.kept (t' := s3.toks) fun b ob z => Heap.get?_push_of_some _ z
  obtain ⟨l, b, xs, ys, a, c, rfl, rfl, rfl, rfl, e1, e2, ne, h0, hac, hc, hz, q⟩ := q3
  cases r1
  cases r
  cases pl
  rename_i ta
  cases pu
  rename_i tc
  refine wpAny_bind (wpAny_standAt (wpAny_bind (wpAny_holding ?_)))
  refine set_slice I4 e1 e2 ne (Heap.IsSliceOf.new ..) ⟨ta, rfl⟩ ⟨tc, rfl⟩ h0 hac hc hz ?_
  intro s5 I5
  exact wpAny_release ⟨σ, _, I5, q⟩
end
section
variable {K : PySem.W.Frag} {σ : L2.St} {H : Hp} {Q : VK} {a b l : Addr} {xs ys : List V} {r : V → Option Int → Option Int → Hp → VK → Prop}
variable {te to : TE} {tl th : TO} {P : Hp → Prop} {S : L2.St → Hp → Prop} {v x : V} {lo hi : Option Int} {R : Option Int → Hp → Prop}
theorem i_gCut (h : to σ H fun x H1 => tl σ H1 fun i H2 => th σ H2 fun j H3 => CutS x i j v H3 fun H4 => S σ H4) :
    gCut to tl th v σ H S := h
theorem i_cutS {i j : Int} (h1 : H l = some (.lst xs)) (h2 : H b = some (.lst ys)) (ne : l ≠ b) (h0 : 0 ≤ i ∧ i ≤ j ∧ j ≤ xs.length)
    (hz : xs.length + ys.length ≤ 1000000) (q : P (upd H l (.lst (xs.take i.toNat ++ ys ++ xs.drop j.toNat)))) :
    CutS (.ref l) (some i) (some j) (.ref b) H P :=
  ⟨l, b, xs, ys, i, j, rfl, rfl, rfl, rfl, h1, h2, ne, h0.1, h0.2.1, h0.2.2, Nat.le_trans hz (by decide), q⟩
theorem i_sl (h : te σ H fun x H1 => tl σ H1 fun l H2 => th σ H2 fun u H3 => r x l u H3 Q) : tSl r te tl th σ H Q := h
theorem i_part (h : te σ H fun x H1 => ∃ i, x = .int i ∧ R (some i) H1) : tPart te σ H R := h
theorem i_partI {n : Int} {P : Int → Prop} (h : P n) : ∃ i, V.int n = .int i ∧ P i := ⟨n, rfl, h⟩
theorem i_noPart (h : R none H) : tNoPart σ H R := h
theorem i_slL (h : SqL K H a xs) (q : New H fun p => Q (.ref p) (upd H p (.lst (cutV xs lo hi)))) : rSlL K (.ref a) lo hi H Q :=
  ⟨a, xs, rfl, h, q⟩
end
theorem cutV_mid {xs : List V} {i j : Int} (h : 0 ≤ i ∧ i ≤ j ∧ j ≤ xs.length) :
    cutV xs (some i) (some j) = (xs.drop i.toNat).take (j.toNat - i.toNat) := by
  obtain ⟨a, rfl⟩ := Int.eq_ofNat_of_zero_le h.1
  obtain ⟨c, rfl⟩ := Int.eq_ofNat_of_zero_le (Int.le_trans h.1 h.2.1)
  unfold cutV
  rw [HT.sIx_nat, HT.sIx_nat, Int.toNat_natCast, Int.toNat_natCast, Nat.min_eq_left (by omega), Nat.min_eq_left (by omega)]
theorem cutV_tail (x : V) (xs : List V) : cutV (x :: xs) (some 1) none = xs := by
  have e := HT.sIx_nat (x :: xs).length 0 1
  unfold cutV
  rw [show ((1 : Int)) = ((1 : Nat) : Int) from rfl, e, HT.sIx_none, List.length_cons, Nat.min_eq_left (by omega), List.drop_succ_cons, List.drop_zero]
  exact List.take_of_length_le (by omega)
theorem ix_nat {n j : Nat} (h : j < n) : ixN n (j : Int) = some j := by
  unfold ixN
  rw [if_pos (by omega), if_pos (by omega), Int.toNat_natCast]
theorem ix_int {n : Nat} {j : Int} (h0 : 0 ≤ j) (h : j < n) : ixN n j = some j.toNat := by
  unfold ixN
  rw [if_pos h0, if_pos h]
/-- one of two -/
theorem at_two {f : Nat → V} {r : Int} (h0 : 0 ≤ r) (h1 : r < 2) : atI [f 0, f 1] r = some (f r.toNat) := by
  have e : r = 0 ∨ r = 1 := by omega
  rcases e with rfl | rfl <;> rfl
end G
set_option Elab.async false
set_option linter.all false
set_option maxRecDepth 100000
set_option maxHeartbeats 4000000
namespace My
open PySem L2 G
local macro_rules | `(tactic| walk_at "g_tr") => `(tactic| first
  | with_reducible assumption
  | (with_reducible exact tr_of (by with_reducible assumption))
  | with_reducible exact tr_same
  | ((with_reducible refine tr_upd ?_); walk_at "g_tr")
  | (with_reducible exact tr_pot (by with_reducible assumption))
  | (with_reducible exact tr_ld (by with_reducible assumption))
  | ((with_reducible apply tr_kp (by with_reducible assumption) ?h); (case h => walk_at "g_tr")))
local macro_rules | `(tactic| walk_at "g_ne") => `(tactic| first
  | with_reducible assumption
  | (with_reducible exact Ne.symm (by with_reducible assumption))
  | ((with_reducible apply fr_tr ?h (by with_reducible assumption)); (case h => walk_at "g_tr"))
  | ((with_reducible apply Ne.symm (fr_tr ?h (by with_reducible assumption))); (case h => walk_at "g_tr")))
local macro_rules | `(tactic| walk_at "g_hp") => `(tactic| first
  | with_reducible assumption
  | with_reducible apply upd_same
  | ((with_reducible apply upd_nn ?h ?k); (case h => walk_at "g_ne"); (case k => walk_at "g_hp"))
  | ((with_reducible apply kp_at (by with_reducible assumption) ?h ?n); (case n => walk_at "g_ni"); (case h => walk_at "g_hp")))
local macro_rules | `(tactic| walk_at "g_ni") => `(tactic| first
  | exact not_nil
  | with_reducible assumption
  | ((with_reducible refine not_one ?_); walk_at "g_ne")
  | ((with_reducible refine not_two ?_ ?_) <;> walk_at "g_ne"))
local macro_rules | `(tactic| walk_at "g_pot") => `(tactic| first
  | with_reducible assumption
  | ((with_reducible apply pot_upd ?h ?n); (case n => walk_at "g_ne"); (case h => walk_at "g_pot"))
  | ((with_reducible apply PotAt.kp ?h (by with_reducible assumption) ?n); (case n => walk_at "g_ni"); (case h => walk_at "g_pot")))
local macro_rules | `(tactic| walk_at "g_ld") => `(tactic| first
  | with_reducible assumption
  | ((with_reducible apply ld_upd ?h ?i ?n); (case n => walk_at "g_fr"); (case i => walk_at "g_im"); (case h => walk_at "g_ld"))
  | ((with_reducible apply ld_upl ?h ?i ?n ?m); (case n => walk_at "g_hp"); (case m => walk_at "g_ne"); (case i => walk_at "g_im"); (case h => walk_at "g_ld"))
  | ((with_reducible apply ld_ins ?h ?i ?n); (case n => walk_at "g_hp"); (case i => walk_at "g_im"); (case h => walk_at "g_ld"))
  | ((with_reducible apply LD.kp ?h (by with_reducible assumption) ?i ?n); (case n => walk_at "g_ni"); (case i => walk_at "g_im"); (case h => walk_at "g_ld")))
local macro_rules | `(tactic| walk_at "g_im") => `(tactic| first
  | with_reducible assumption
  | exact imms_d2 _
  | rfl)
local macro_rules | `(tactic| walk_at "g_fx") => `(tactic| first
  | with_reducible assumption
  | with_reducible exact fx_refl
  | ((with_reducible apply fx_new ?h ?f); (case f => with_reducible assumption); (case h => walk_at "g_fx"))
  | ((with_reducible apply fx_mut ?h ?f ?g); (case f => walk_at "g_hp"); (case g => exact fun z => z); (case h => walk_at "g_fx"))
  | ((with_reducible apply fx_kp (by with_reducible assumption) ?h); (case h => walk_at "g_fx")))
local macro_rules | `(tactic| walk_at "g_st") => `(tactic| first
  | with_reducible assumption
  | ((with_reducible apply Fx.seqT ?k (by with_reducible assumption)); (case k => walk_at "g_fx"))
  | ((with_reducible apply SqT.of ?h); (case h => walk_at "g_hp")))
local macro_rules | `(tactic| walk_at "g_sq") => `(tactic| first
  | with_reducible assumption
  | ((with_reducible apply SqL.of ?h); (case h => walk_at "g_hp"))
  | ((with_reducible apply sqL_new ?h (by with_reducible assumption)); (case h => walk_at "g_sq"))
  | ((with_reducible apply sqL_kp (by with_reducible assumption) ?h ?n); (case h => walk_at "g_sq"); (case n => walk_at "g_ni")))
local macro_rules | `(tactic| walk_at "g_kp") => `(tactic| first
  | with_reducible assumption
  | with_reducible exact Kp.refl
  | with_reducible exact Kp.wide (by with_reducible assumption)
  | ((with_reducible apply Kp.trans ?k (by with_reducible assumption)); (case k => walk_at "g_kp"))
  | ((with_reducible apply Kp.trans ?k (Kp.wide (by with_reducible assumption))); (case k => walk_at "g_kp"))
  | ((with_reducible apply Kp.trans ?k (Kp.mono (by with_reducible assumption) ?m)); (case m => simp only [List.mem_cons, List.not_mem_nil, or_false, forall_eq, true_or, or_true, List.mem_singleton, implies_true]); (case k => walk_at "g_kp"))
  | ((with_reducible apply Kp.upd ?k ?h); (case h => walk_at "g_fr"); (case k => walk_at "g_kp"))
  | ((with_reducible apply Kp.upi ?k ?h ?m); (case h => walk_at "g_hp"); (case m => simp only [List.mem_cons, true_or, or_true]); (case k => walk_at "g_kp"))
  | ((with_reducible apply Kp.upm ?k ?h ?m); (case h => walk_at "g_hp"); (case m => simp only [List.mem_cons, true_or, or_true]); (case k => walk_at "g_kp")))
local macro_rules | `(tactic| walk_at "g_old") => `(tactic| first
  | with_reducible exact Old.refl
  | ((with_reducible apply old_upd ?k); (case k => walk_at "g_old"))
  | ((with_reducible apply old_kp (by with_reducible assumption) ?k); (case k => walk_at "g_old")))
local macro_rules | `(tactic| walk_at "g_fr") => `(tactic| first
  | with_reducible assumption
  | ((with_reducible apply fr_of (by with_reducible assumption) ?o); (case o => walk_at "g_old")))
local macro_rules | `(tactic| walk_at "g_at") => `(tactic| first
  | assumption
  | exact atI_last _ _
  | exact at_zero
  | rfl)
local macro_rules | `(tactic| walk_at "g_sz") => `(tactic| first
  | assumption
  | ((with_reducible apply small_sz); (try simp only [List.length_append, List.length_cons, List.length_nil]); omega))
local macro_rules | `(tactic| walk_at "g1") => `(tactic| first
  | (with_reducible refine i_seq ?_)
  | (with_reducible refine i_set ?_)
  | ((with_reducible apply i_var ?h ?_); (case h => exact rfl))
  | (with_reducible refine i_c ?_)
  | (with_reducible refine i_ret ?_)
  | (with_reducible refine i_op ?_)
  | (with_reducible refine i_addI ?_)
  | (with_reducible refine i_I0 ?_)
  | (with_reducible refine i_ifS ?_)
  | (with_reducible refine i_test ?_)
  | (with_reducible refine i_bl ?_)
  | (with_reducible refine i_eqI ?_)
  | (with_reducible refine i_neI ?_)
  | (with_reducible refine i_eqS ?_)
  | (with_reducible refine i_neS ?_)
  | (with_reducible refine i_and ?_)
  | (with_reducible refine i_or ?_)
  | (with_reducible refine i_not ?_)
  | (with_reducible refine i_asg ?_)
  | (with_reducible refine i_drop ?_)
  | (with_reducible refine i_cons ?_)
  | (with_reducible refine i_nil ?_)
  | (with_reducible refine i_tup ?_)
  | (with_reducible refine i_lst ?_)
  | (with_reducible refine i_few (by simp only [List.length_cons, List.length_nil]; decide) ?_)
  | (with_reducible refine i_CB ?_)
  | (with_reducible refine i_call0 ?_)
  | (with_reducible refine i_call ?_)
  | (with_reducible refine i_BM ?_)
  | (with_reducible refine i_BM0 ?_)
  | (with_reducible refine i_un ?_)
  | (with_reducible refine i_U ?_)
  | (with_reducible refine i_iteT ?_)
  | (with_reducible refine i_iteF ?_)
  | (with_reducible refine i_ntT ?_)
  | (with_reducible refine i_ntF ?_)
  | (with_reducible refine i_next ?_)
  | (with_reducible refine i_retN ?_)
  | (with_reducible refine i_brk ?_)
  | (with_reducible refine i_cont ?_)
  | ((with_reducible apply i_aug ?h ?_); (case h => exact rfl))
  | (with_reducible refine i_ipI ?_)
  | (with_reducible refine i_par ?_)
  | (with_reducible refine i_two ?_)
  | (with_reducible refine i_B ?_)
  | (with_reducible refine i_andV ?_)
  | (with_reducible refine i_orV ?_)
  | (with_reducible refine i_notV ?_)
  | (with_reducible refine i_ifE ?_)
  | (with_reducible refine i_chain ?_)
  | (with_reducible refine i_forL ?_)
  | (with_reducible refine i_forR ?_)
  | (with_reducible refine i_lcL ?_)
  | (with_reducible refine i_lcR ?_)
  | ((with_reducible refine i_wipe ?e ?_); (case e => rfl))
  | (with_reducible refine i_yes ?_)
  | ((with_reducible apply i_tyL ?h ?_); (case h => walk_at "g_sq"))
  | ((with_reducible apply i_app ?h ?g ?_); (case h => walk_at "g_hp"); (case g => walk_at "g_sz"))
  | ((with_reducible apply i_lenO ?h ?g ?_); (case h => walk_at "g_hp"); (case g => exact rfl))
  | ((with_reducible apply i_lenL ?h ?_); (case h => walk_at "g_sq"))
  | ((with_reducible apply i_lenT ?h ?_); (case h => walk_at "g_st"))
  | ((with_reducible apply i_gTup ?h ?g ?_); (case h => walk_at "g_st"); (case g => rfl))
  | ((with_reducible apply i_setL ?h ?g ?_); (case h => walk_at "g_hp"); (case g => first | (simp only [List.length_append, List.length_cons, List.length_nil]; exact ix_last _) | (simp only [List.length_cons]; exact ix_zero _) | rfl))
  | (with_reducible refine i_gCons ?_)
  | (with_reducible refine i_gNil ?_)
  | (with_reducible refine i_gName ?_)
  | (with_reducible refine i_gSub ?_)
  | (with_reducible refine i_revL ?_)
  | ((with_reducible apply i_revd ?h ?g); (case h => walk_at "g_sq"))
  | ((with_reducible apply i_ins0 ?h ?g ?k); (case h => walk_at "g_hp"); (case g => walk_at "g_sz"))
  | ((with_reducible apply i_ixS (by with_reducible assumption) ?k ?g ?_); (case k => walk_at "g_fx"); (case g => walk_at "g_at"))
  | ((with_reducible apply i_ixO ?h ?g ?_); (case h => walk_at "g_hp"); (case g => walk_at "g_at"))
  | ((with_reducible apply i_ixL ?h ?g ?_); (case h => walk_at "g_sq"); (case g => walk_at "g_at"))
  | (with_reducible refine i_abs ?_)
  | (with_reducible refine i_max2 ?_)
  | (with_reducible refine i_min2 ?_)
  | (with_reducible refine i_pw6 ?_)
  | (with_reducible refine i_pw16 ?_)
  | (with_reducible refine i_pw18 ?_)
  | (with_reducible refine i_pw58 ?_)
  | (with_reducible refine i_pw59 ?_)
  | (with_reducible refine i_pw60 ?_)
  | (with_reducible refine i_pw61 ?_)
  | ((with_reducible refine i_mod ?c ?_); (case c => omega))
  | ((with_reducible refine i_div ?c ?d ?_); (case c => omega); (case d => omega))
  | ((with_reducible refine i_dm ?c ?d ?_); (case c => omega); (case d => omega))
  | ((with_reducible apply i_listL ?h ?g); (case h => walk_at "g_sq"))
  | ((with_reducible apply i_listT ?h ?g); (case h => walk_at "g_st"))
  | (with_reducible refine i_isNn ?_)
  | (with_reducible refine i_isNr ?_)
  | (with_reducible refine i_isNi ?_)
  | (with_reducible refine i_notNn ?_)
  | (with_reducible refine i_notNr ?_)
  | (with_reducible refine i_notNi ?_)
  | (with_reducible refine i_meth ?_)
  | (with_reducible refine i_methD ?_)
  | ((with_reducible apply i_methR ?h ?g ?_); (case h => walk_at "g_hp"); (case g => exact rfl))
  | (walk_at "g_own")
  | (with_reducible refine i_methW ?_)
  | ((with_reducible apply i_methWR ?h ?g ?_); (case h => walk_at "g_hp"); (case g => exact rfl))
  | ((with_reducible apply i_lens ?h ?g ?_); (case h => exact rfl); (case g => exact rfl))
  | (with_reducible refine i_kw ?_)
  | (with_reducible refine i_mk ?_)
  | (with_reducible refine i_mkD ?_)
  | (with_reducible refine i_mkK ?_)
  | (with_reducible refine i_fld ?_)
  | ((with_reducible apply i_fldR ?h ?c ?n ?g ?_); (case h => walk_at "g_hp"); (case c => with_reducible assumption); (case n => with_reducible assumption); (case g => exact rfl))
  | (with_reducible refine i_fldS ?_)
  | ((with_reducible apply i_fldSR ?h ?c ?n ?g ?_); (case h => walk_at "g_hp"); (case c => with_reducible assumption); (case n => with_reducible assumption); (case g => exact fs_few (by rfl)))
  | (with_reducible refine i_gCut ?_)
  | (with_reducible refine i_sl ?_)
  | (with_reducible refine i_part ?_)
  | (with_reducible refine i_partI ?_)
  | (with_reducible refine i_noPart ?_)
  | ((with_reducible apply i_slL ?h ?_); (case h => walk_at "g_sq"))
  | (with_reducible refine i_forZ ?_)
  | (with_reducible refine i_lcZ ?_)
  | ((with_reducible apply i_addL ?h ?g ?z ?_); (case h => walk_at "g_hp"); (case g => walk_at "g_hp"); (case z => (try simp only [List.length_append, List.length_cons, List.length_nil, List.length_map]); omega))
  | ((with_reducible refine i_mulI ?c ?_); (case c => first | exact Or.inl ⟨by omega, by omega⟩ | exact Or.inr ⟨by omega, by omega⟩)))
local macro_rules | `(tactic| walk_at "gr") => `(tactic| first | ((walk_at "g1"); (walk_at "gr")) | skip)
local macro_rules | `(tactic| walk_at "gs") => `(tactic| (walk_at "gr"))

def top (i : Nat) : Stmt := PySem.Challenge.pw_forkthrift_k33_whole_first_of_the_least.main.body.getD i (.Pass ⟨0, 0, 0, 0⟩)
abbrev s_wall : Stmt := top 0
abbrev s_walked_from : Stmt := top 2
abbrev s_best_of : Stmt := top 3
abbrev s_tied_on : Stmt := top 4
abbrev s_ways_at : Stmt := top 5
abbrev s_best_at : Stmt := top 6
abbrev s_the_keeping : Stmt := top 7
abbrev s_is_count : Stmt := top 14
abbrev s_Ties_init : Stmt := inClass (top 15) 0
abbrev s_Ties_ever : Stmt := inClass (top 15) 1
abbrev s_Ties_living : Stmt := inClass (top 15) 2
abbrev s_Ties_free : Stmt := inClass (top 15) 3
abbrev s_Ties_rows : Stmt := inClass (top 15) 4
abbrev s_Ties_lives : Stmt := inClass (top 15) 5
abbrev s_Ties_has : Stmt := inClass (top 15) 6
abbrev s_Ties_tied : Stmt := inClass (top 15) 7
abbrev s_Ties_way : Stmt := inClass (top 15) 8
abbrev s_Ties_spread : Stmt := inClass (top 15) 9
abbrev s_Ties_fork : Stmt := inClass (top 15) 10
abbrev s_Ties_end : Stmt := inClass (top 15) 11
abbrev s_Ties_may_go : Stmt := inClass (top 15) 12
abbrev s_Ties_taken_out : Stmt := inClass (top 15) 13
abbrev s_Ties_copied : Stmt := inClass (top 15) 14
abbrev s_Ties_eq : Stmt := inClass (top 15) 15
abbrev s_Ties_told : Stmt := inClass (top 15) 16
abbrev s_Ties_len : Stmt := inClass (top 15) 17
abbrev s_made : Stmt := top 16
abbrev s_are_worlds : Stmt := top 17
abbrev s_are_pairs : Stmt := top 18
abbrev s_is_tree : Stmt := top 19
abbrev s_ties_of : Stmt := top 20
abbrev s_law_pot : Stmt := top 22
abbrev s_law_take : Stmt := top 23
abbrev s_law_pick : Stmt := top 24
abbrev s_law_grown : Stmt := top 25
abbrev s_law_tree : Stmt := top 26
abbrev s_law_numbers : Stmt := top 27
abbrev s_law_all : Stmt := top 28
abbrev s_law_cost : Stmt := top 29
abbrev s_law_least : Stmt := top 30
abbrev s_law_few : Stmt := top 31
abbrev s_law_right : Stmt := top 32
abbrev s_law : Stmt := top 33
def tyNames : List String := ["NoneType", "int", "bool", "str", "list", "tuple", "dict"]
theorem kit_other {K : PySem.W.Frag} {C : Addr} (hc : PySem.W.isClsIn K C = true) (ht : PySem.W.typeIn K (.ref C) = some (.type "type")) {n : String} (h : PySem.W.subIn K (.type n) (.ref C) = some false) : PySem.W.kitOne K (.type n) (.ref C) = some false := by
  unfold PySem.W.kitOne PySem.W.kitCls
  unfold PySem.W.isClsIn at hc
  rw [if_neg (by simp)]
  simp only [hc, ht, h, beq_self_eq_true, Bool.and_self, if_true]
theorem kit_me {K : PySem.W.Frag} {C : Addr} : PySem.W.kitOne K (.ref C) (.ref C) = some true := by
  unfold PySem.W.kitOne
  rw [if_pos (by simp)]
/-- what the top leaves -/
structure Txt (K : PySem.W.Frag) (mg : Str → Option Value) where
  c_Ties : Addr
  cl_Ties : Cls K c_Ties
  mg_Ties : mg "Ties" = some (.ref c_Ties)
  na_Ties_near : NoAttr K c_Ties "near"
  na_Ties_own_ever : NoAttr K c_Ties "own_ever"
  na_Ties_own_living : NoAttr K c_Ties "own_living"
  ic_Ties : C8.InsC K c_Ties
  ot_Ties : ∀ n ∈ tyNames, PySem.W.kitOne K (.type n) (.ref c_Ties) = some false
  ne_Ties : PySem.W.findIn K (.ref c_Ties) "__ne__" = some (some (.builtin "object.__ne__"))
  a_wall : Addr
  d_wall : FuncData
  F_wall : FunD K "_wall" "_wall" (defArgs s_wall) (defBody s_wall) (defScope s_wall) [] ([] : List (Str × V)) a_wall d_wall
  m_wall : mg "_wall" = some (.ref a_wall)
  b_wall : BindsD K d_wall ["k"] []
  a_walked_from : Addr
  d_walked_from : FuncData
  F_walked_from : FunD K "walked_from" "walked_from" (defArgs s_walked_from) (defBody s_walked_from) (defScope s_walked_from) [] ([] : List (Str × V)) a_walked_from d_walked_from
  m_walked_from : mg "walked_from" = some (.ref a_walked_from)
  b_walked_from : BindsD K d_walked_from ["ties", "root"] []
  a_best_of : Addr
  d_best_of : FuncData
  F_best_of : FunD K "best_of" "best_of" (defArgs s_best_of) (defBody s_best_of) (defScope s_best_of) [] ([] : List (Str × V)) a_best_of d_best_of
  m_best_of : mg "best_of" = some (.ref a_best_of)
  b_best_of : BindsD K d_best_of ["ways"] []
  a_tied_on : Addr
  d_tied_on : FuncData
  F_tied_on : FunD K "tied_on" "tied_on" (defArgs s_tied_on) (defBody s_tied_on) (defScope s_tied_on) [] ([] : List (Str × V)) a_tied_on d_tied_on
  m_tied_on : mg "tied_on" = some (.ref a_tied_on)
  b_tied_on : BindsD K d_tied_on ["ways", "beneath"] []
  a_ways_at : Addr
  d_ways_at : FuncData
  F_ways_at : FunD K "ways_at" "ways_at" (defArgs s_ways_at) (defBody s_ways_at) (defScope s_ways_at) [] ([] : List (Str × V)) a_ways_at d_ways_at
  m_ways_at : mg "ways_at" = some (.ref a_ways_at)
  b_ways_at : BindsD K d_ways_at ["ties", "told", "root"] []
  a_best_at : Addr
  d_best_at : FuncData
  F_best_at : FunD K "best_at" "best_at" (defArgs s_best_at) (defBody s_best_at) (defScope s_best_at) [] ([] : List (Str × V)) a_best_at d_best_at
  m_best_at : mg "best_at" = some (.ref a_best_at)
  b_best_at : BindsD K d_best_at ["ties", "told", "root"] []
  a_the_keeping : Addr
  d_the_keeping : FuncData
  F_the_keeping : FunD K "the_keeping" "the_keeping" (defArgs s_the_keeping) (defBody s_the_keeping) (defScope s_the_keeping) [] ([] : List (Str × V)) a_the_keeping d_the_keeping
  m_the_keeping : mg "the_keeping" = some (.ref a_the_keeping)
  b_the_keeping : BindsD K d_the_keeping ["ties", "numbers"] []
  a_is_count : Addr
  d_is_count : FuncData
  F_is_count : FunD K "is_count" "is_count" (defArgs s_is_count) (defBody s_is_count) (defScope s_is_count) [] ([] : List (Str × V)) a_is_count d_is_count
  m_is_count : mg "is_count" = some (.ref a_is_count)
  b_is_count : BindsD K d_is_count ["thing"] []
  a_Ties_init : Addr
  d_Ties_init : FuncData
  F_Ties_init : FunD K "__init__" "Ties.__init__" (defArgs s_Ties_init) (defBody s_Ties_init) (defScope s_Ties_init) [] ([] : List (Str × V)) a_Ties_init d_Ties_init
  mk_Ties : Mk K c_Ties a_Ties_init
  b_Ties_init : BindsD K d_Ties_init ["self"] []
  a_Ties_ever : Addr
  d_Ties_ever : FuncData
  F_Ties_ever : FunD K "ever" "Ties.ever" (defArgs s_Ties_ever) (defBody s_Ties_ever) (defScope s_Ties_ever) [] ([] : List (Str × V)) a_Ties_ever d_Ties_ever
  me_Ties_ever : Meth K c_Ties "ever" a_Ties_ever
  b_Ties_ever : BindsD K d_Ties_ever ["self"] []
  a_Ties_living : Addr
  d_Ties_living : FuncData
  F_Ties_living : FunD K "living" "Ties.living" (defArgs s_Ties_living) (defBody s_Ties_living) (defScope s_Ties_living) [] ([] : List (Str × V)) a_Ties_living d_Ties_living
  me_Ties_living : Meth K c_Ties "living" a_Ties_living
  b_Ties_living : BindsD K d_Ties_living ["self"] []
  a_Ties_free : Addr
  d_Ties_free : FuncData
  F_Ties_free : FunD K "free" "Ties.free" (defArgs s_Ties_free) (defBody s_Ties_free) (defScope s_Ties_free) [] ([] : List (Str × V)) a_Ties_free d_Ties_free
  me_Ties_free : Meth K c_Ties "free" a_Ties_free
  b_Ties_free : BindsD K d_Ties_free ["self"] []
  a_Ties_rows : Addr
  d_Ties_rows : FuncData
  F_Ties_rows : FunD K "rows" "Ties.rows" (defArgs s_Ties_rows) (defBody s_Ties_rows) (defScope s_Ties_rows) [] ([] : List (Str × V)) a_Ties_rows d_Ties_rows
  me_Ties_rows : Meth K c_Ties "rows" a_Ties_rows
  b_Ties_rows : BindsD K d_Ties_rows ["self"] []
  a_Ties_lives : Addr
  d_Ties_lives : FuncData
  F_Ties_lives : FunD K "lives" "Ties.lives" (defArgs s_Ties_lives) (defBody s_Ties_lives) (defScope s_Ties_lives) [] ([] : List (Str × V)) a_Ties_lives d_Ties_lives
  me_Ties_lives : Meth K c_Ties "lives" a_Ties_lives
  b_Ties_lives : BindsD K d_Ties_lives ["self", "thing"] []
  a_Ties_has : Addr
  d_Ties_has : FuncData
  F_Ties_has : FunD K "has" "Ties.has" (defArgs s_Ties_has) (defBody s_Ties_has) (defScope s_Ties_has) [] ([] : List (Str × V)) a_Ties_has d_Ties_has
  me_Ties_has : Meth K c_Ties "has" a_Ties_has
  b_Ties_has : BindsD K d_Ties_has ["self", "thing"] []
  a_Ties_tied : Addr
  d_Ties_tied : FuncData
  F_Ties_tied : FunD K "tied" "Ties.tied" (defArgs s_Ties_tied) (defBody s_Ties_tied) (defScope s_Ties_tied) [] ([] : List (Str × V)) a_Ties_tied d_Ties_tied
  me_Ties_tied : Meth K c_Ties "tied" a_Ties_tied
  b_Ties_tied : BindsD K d_Ties_tied ["self", "world"] []
  a_Ties_way : Addr
  d_Ties_way : FuncData
  F_Ties_way : FunD K "way" "Ties.way" (defArgs s_Ties_way) (defBody s_Ties_way) (defScope s_Ties_way) [] ([] : List (Str × V)) a_Ties_way d_Ties_way
  me_Ties_way : Meth K c_Ties "way" a_Ties_way
  b_Ties_way : BindsD K d_Ties_way ["self", "one", "other"] []
  a_Ties_spread : Addr
  d_Ties_spread : FuncData
  F_Ties_spread : FunD K "spread" "Ties.spread" (defArgs s_Ties_spread) (defBody s_Ties_spread) (defScope s_Ties_spread) [] ([] : List (Str × V)) a_Ties_spread d_Ties_spread
  me_Ties_spread : Meth K c_Ties "spread" a_Ties_spread
  b_Ties_spread : BindsD K d_Ties_spread ["self", "goal"] []
  a_Ties_fork : Addr
  d_Ties_fork : FuncData
  F_Ties_fork : FunD K "fork" "Ties.fork" (defArgs s_Ties_fork) (defBody s_Ties_fork) (defScope s_Ties_fork) [] ([] : List (Str × V)) a_Ties_fork d_Ties_fork
  me_Ties_fork : Meth K c_Ties "fork" a_Ties_fork
  b_Ties_fork : BindsD K d_Ties_fork ["self", "world"] []
  a_Ties_end : Addr
  d_Ties_end : FuncData
  F_Ties_end : FunD K "end" "Ties.end" (defArgs s_Ties_end) (defBody s_Ties_end) (defScope s_Ties_end) [] ([] : List (Str × V)) a_Ties_end d_Ties_end
  me_Ties_end : Meth K c_Ties "end" a_Ties_end
  b_Ties_end : BindsD K d_Ties_end ["self", "world"] []
  a_Ties_may_go : Addr
  d_Ties_may_go : FuncData
  F_Ties_may_go : FunD K "may_go" "Ties.may_go" (defArgs s_Ties_may_go) (defBody s_Ties_may_go) (defScope s_Ties_may_go) [] ([] : List (Str × V)) a_Ties_may_go d_Ties_may_go
  me_Ties_may_go : Meth K c_Ties "may_go" a_Ties_may_go
  b_Ties_may_go : BindsD K d_Ties_may_go ["self", "world"] []
  a_Ties_taken_out : Addr
  d_Ties_taken_out : FuncData
  F_Ties_taken_out : FunD K "taken_out" "Ties.taken_out" (defArgs s_Ties_taken_out) (defBody s_Ties_taken_out) (defScope s_Ties_taken_out) [] ([] : List (Str × V)) a_Ties_taken_out d_Ties_taken_out
  me_Ties_taken_out : Meth K c_Ties "taken_out" a_Ties_taken_out
  b_Ties_taken_out : BindsD K d_Ties_taken_out ["self", "world"] []
  a_Ties_copied : Addr
  d_Ties_copied : FuncData
  F_Ties_copied : FunD K "copied" "Ties.copied" (defArgs s_Ties_copied) (defBody s_Ties_copied) (defScope s_Ties_copied) [] ([] : List (Str × V)) a_Ties_copied d_Ties_copied
  me_Ties_copied : Meth K c_Ties "copied" a_Ties_copied
  b_Ties_copied : BindsD K d_Ties_copied ["self"] []
  a_Ties_eq : Addr
  d_Ties_eq : FuncData
  F_Ties_eq : FunD K "__eq__" "Ties.__eq__" (defArgs s_Ties_eq) (defBody s_Ties_eq) (defScope s_Ties_eq) [] ([] : List (Str × V)) a_Ties_eq d_Ties_eq
  me_Ties_eq : Meth K c_Ties "__eq__" a_Ties_eq
  b_Ties_eq : BindsD K d_Ties_eq ["self", "other"] []
  a_Ties_told : Addr
  d_Ties_told : FuncData
  F_Ties_told : FunD K "told" "Ties.told" (defArgs s_Ties_told) (defBody s_Ties_told) (defScope s_Ties_told) [] ([] : List (Str × V)) a_Ties_told d_Ties_told
  me_Ties_told : Meth K c_Ties "told" a_Ties_told
  b_Ties_told : BindsD K d_Ties_told ["self"] []
  a_Ties_len : Addr
  d_Ties_len : FuncData
  F_Ties_len : FunD K "__len__" "Ties.__len__" (defArgs s_Ties_len) (defBody s_Ties_len) (defScope s_Ties_len) [] ([] : List (Str × V)) a_Ties_len d_Ties_len
  me_Ties_len : Meth K c_Ties "__len__" a_Ties_len
  b_Ties_len : BindsD K d_Ties_len ["self"] []
  a_made : Addr
  d_made : FuncData
  F_made : FunD K "made" "made" (defArgs s_made) (defBody s_made) (defScope s_made) [] ([] : List (Str × V)) a_made d_made
  m_made : mg "made" = some (.ref a_made)
  b_made : BindsD K d_made ["ever", "living", "worlds", "rows"] []
  a_are_worlds : Addr
  d_are_worlds : FuncData
  F_are_worlds : FunD K "are_worlds" "are_worlds" (defArgs s_are_worlds) (defBody s_are_worlds) (defScope s_are_worlds) [] ([] : List (Str × V)) a_are_worlds d_are_worlds
  m_are_worlds : mg "are_worlds" = some (.ref a_are_worlds)
  b_are_worlds : BindsD K d_are_worlds ["thing", "ever"] []
  a_are_pairs : Addr
  d_are_pairs : FuncData
  F_are_pairs : FunD K "are_pairs" "are_pairs" (defArgs s_are_pairs) (defBody s_are_pairs) (defScope s_are_pairs) [] ([] : List (Str × V)) a_are_pairs d_are_pairs
  m_are_pairs : mg "are_pairs" = some (.ref a_are_pairs)
  b_are_pairs : BindsD K d_are_pairs ["thing", "worlds"] []
  a_is_tree : Addr
  d_is_tree : FuncData
  F_is_tree : FunD K "is_tree" "is_tree" (defArgs s_is_tree) (defBody s_is_tree) (defScope s_is_tree) [] ([] : List (Str × V)) a_is_tree d_is_tree
  m_is_tree : mg "is_tree" = some (.ref a_is_tree)
  b_is_tree : BindsD K d_is_tree ["ties"] []
  a_ties_of : Addr
  d_ties_of : FuncData
  F_ties_of : FunD K "ties_of" "ties_of" (defArgs s_ties_of) (defBody s_ties_of) (defScope s_ties_of) [] ([] : List (Str × V)) a_ties_of d_ties_of
  m_ties_of : mg "ties_of" = some (.ref a_ties_of)
  b_ties_of : BindsD K d_ties_of ["ever", "living", "free", "rows"] []
  a_law_pot : Addr
  d_law_pot : FuncData
  F_law_pot : FunD K "_law_pot" "_law_pot" (defArgs s_law_pot) (defBody s_law_pot) (defScope s_law_pot) [] ([] : List (Str × V)) a_law_pot d_law_pot
  m_law_pot : mg "_law_pot" = some (.ref a_law_pot)
  b_law_pot : BindsD K d_law_pot ["_law_script", "_law_k"] []
  a_law_take : Addr
  d_law_take : FuncData
  F_law_take : FunD K "_law_take" "_law_take" (defArgs s_law_take) (defBody s_law_take) (defScope s_law_take) [] ([] : List (Str × V)) a_law_take d_law_take
  m_law_take : mg "_law_take" = some (.ref a_law_take)
  b_law_take : BindsD K d_law_take ["_law_pot_here", "_law_many"] []
  a_law_pick : Addr
  d_law_pick : FuncData
  F_law_pick : FunD K "_law_pick" "_law_pick" (defArgs s_law_pick) (defBody s_law_pick) (defScope s_law_pick) [] ([] : List (Str × V)) a_law_pick d_law_pick
  m_law_pick : mg "_law_pick" = some (.ref a_law_pick)
  b_law_pick : BindsD K d_law_pick ["_law_pot_here", "_law_some"] []
  a_law_grown : Addr
  d_law_grown : FuncData
  F_law_grown : FunD K "_law_grown" "_law_grown" (defArgs s_law_grown) (defBody s_law_grown) (defScope s_law_grown) [] ([] : List (Str × V)) a_law_grown d_law_grown
  m_law_grown : mg "_law_grown" = some (.ref a_law_grown)
  b_law_grown : BindsD K d_law_grown ["_law_pot_here", "_law_most", "_law_steps"] []
  a_law_tree : Addr
  d_law_tree : FuncData
  F_law_tree : FunD K "_law_tree" "_law_tree" (defArgs s_law_tree) (defBody s_law_tree) (defScope s_law_tree) [] ([] : List (Str × V)) a_law_tree d_law_tree
  m_law_tree : mg "_law_tree" = some (.ref a_law_tree)
  b_law_tree : BindsD K d_law_tree ["_law_pot_here", "_law_most", "_law_steps"] []
  a_law_numbers : Addr
  d_law_numbers : FuncData
  F_law_numbers : FunD K "_law_numbers" "_law_numbers" (defArgs s_law_numbers) (defBody s_law_numbers) (defScope s_law_numbers) [] ([] : List (Str × V)) a_law_numbers d_law_numbers
  m_law_numbers : mg "_law_numbers" = some (.ref a_law_numbers)
  b_law_numbers : BindsD K d_law_numbers ["_law_pot_here", "_law_living"] []
  a_law_all : Addr
  d_law_all : FuncData
  F_law_all : FunD K "_law_all" "_law_all" (defArgs s_law_all) (defBody s_law_all) (defScope s_law_all) [] ([] : List (Str × V)) a_law_all d_law_all
  m_law_all : mg "_law_all" = some (.ref a_law_all)
  b_law_all : BindsD K d_law_all ["_law_numbers_here", "_law_free", "_law_some"] []
  a_law_cost : Addr
  d_law_cost : FuncData
  F_law_cost : FunD K "_law_cost" "_law_cost" (defArgs s_law_cost) (defBody s_law_cost) (defScope s_law_cost) [] ([] : List (Str × V)) a_law_cost d_law_cost
  m_law_cost : mg "_law_cost" = some (.ref a_law_cost)
  b_law_cost : BindsD K d_law_cost ["_law_rows", "_law_keeping"] []
  a_law_least : Addr
  d_law_least : FuncData
  F_law_least : FunD K "_law_least" "_law_least" (defArgs s_law_least) (defBody s_law_least) (defScope s_law_least) [] ([] : List (Str × V)) a_law_least d_law_least
  m_law_least : mg "_law_least" = some (.ref a_law_least)
  b_law_least : BindsD K d_law_least ["_law_rows", "_law_numbers_here", "_law_free"] []
  a_law_few : Addr
  d_law_few : FuncData
  F_law_few : FunD K "_law_few" "_law_few" (defArgs s_law_few) (defBody s_law_few) (defScope s_law_few) [] ([] : List (Str × V)) a_law_few d_law_few
  m_law_few : mg "_law_few" = some (.ref a_law_few)
  b_law_few : BindsD K d_law_few ["_law_pot_here"] []
  a_law_right : Addr
  d_law_right : FuncData
  F_law_right : FunD K "_law_right" "_law_right" (defArgs s_law_right) (defBody s_law_right) (defScope s_law_right) [] ([] : List (Str × V)) a_law_right d_law_right
  m_law_right : mg "_law_right" = some (.ref a_law_right)
  b_law_right : BindsD K d_law_right ["_law_ties", "_law_world"] []
  a_law : Addr
  d_law : FuncData
  F_law : FunD K "law" "law" (defArgs s_law) (defBody s_law) (defScope s_law) [] ([] : List (Str × V)) a_law d_law
  m_law : mg "law" = some (.ref a_law)
  b_law : BindsD K d_law ["_law_script"] []
  t_FEWEST_TIES : Tok
  g_FEWEST_TIES : mg "FEWEST_TIES" = some (.int 3 t_FEWEST_TIES)
  n_LookupError : mg "LookupError" = none
  n_ValueError : mg "ValueError" = none
  n_all : mg "all" = none
  n_bool : mg "bool" = none
  n_dict : mg "dict" = none
  n_divmod : mg "divmod" = none
  n_int : mg "int" = none
  n_isinstance : mg "isinstance" = none
  n_len : mg "len" = none
  n_list : mg "list" = none
  n_max : mg "max" = none
  n_min : mg "min" = none
  n_range : mg "range" = none
  n_set : mg "set" = none
  n_sorted : mg "sorted" = none
  n_sum : mg "sum" = none
  n_tuple : mg "tuple" = none
  n_zip : mg "zip" = none
/-! ### trees by their distances -/
section
variable {D : Int → Int → Int} {U : Int → Prop} {ks : List Int} {nb : Int → List Int}
def Btw (D : Int → Int → Int) (u x v : Int) : Prop := D u x + D x v = D u v
structure TreeU (D : Int → Int → Int) (U : Int → Prop) : Prop where
  nn : ∀ u v, U u → U v → 0 ≤ D u v
  self : ∀ u, U u → D u u = 0
  eq : ∀ u v, U u → U v → D u v = 0 → u = v
  sym : ∀ u v, U u → U v → D u v = D v u
  four : ∀ a b c d, U a → U b → U c → U d → D a b + D c d ≤ D a c + D b d ∨ D a b + D c d ≤ D a d + D b c
theorem TreeU.tri (t : TreeU D U) {a b c : Int} (ha : U a) (hb : U b) (hc : U c) : D a b ≤ D a c + D c b := by
  have := t.four a b c c ha hb hc hc
  have := t.self c hc
  have := t.sym b c hb hc
  omega
theorem TreeU.pos (t : TreeU D U) {a b : Int} (ha : U a) (hb : U b) (n : a ≠ b) : 0 < D a b := by
  have := t.nn a b ha hb
  rcases Int.lt_or_eq_of_le this with h | h
  · exact h
  · exact absurd (t.eq a b ha hb h.symm) n
theorem Btw.sym (t : TreeU D U) {a b c : Int} (ha : U a) (hb : U b) (hc : U c) (h : Btw D a b c) : Btw D c b a := by
  unfold Btw at h ⊢
  have := t.sym a b ha hb
  have := t.sym b c hb hc
  have := t.sym a c ha hc
  omega
/-- the three sums of four points -/
theorem TreeU.sums (t : TreeU D U) {a b c d : Int} (ha : U a) (hb : U b) (hc : U c) (hd : U d) :
    (D a b + D c d ≤ D a c + D b d ∨ D a b + D c d ≤ D a d + D b c) ∧ (D a c + D b d ≤ D a b + D c d ∨ D a c + D b d ≤ D a d + D b c) ∧ (D a d + D b c ≤ D a b + D c d ∨ D a d + D b c ≤ D a c + D b d) := by
  have h1 := t.four a b c d ha hb hc hd
  have h2 := t.four a c b d ha hc hb hd
  have h3 := t.four a d b c ha hd hb hc
  rw [t.sym c b hc hb] at h2
  rw [t.sym d c hd hc, t.sym d b hd hb] at h3
  exact ⟨h1, h2, h3⟩
/-- on one way, x and z: z is on one side of x -/
theorem TreeU.line (t : TreeU D U) {a x b z : Int} (ha : U a) (hx : U x) (hb : U b) (hz : U z) (h1 : Btw D a x b) (h2 : Btw D a z b) : Btw D a z x ∨ Btw D x z b := by
  obtain ⟨q1, q2, q3⟩ := t.sums ha hb hx hz
  have := t.sym b x hb hx
  have := t.sym b z hb hz
  have := t.sym x z hx hz
  have := t.nn x z hx hz
  unfold Btw at *
  omega
theorem TreeU.med1 (t : TreeU D U) {a b c x y : Int} (ha : U a) (hb : U b) (hc : U c) (hx : U x) (hy : U y)
    (h1 : Btw D a x b) (h2 : Btw D a x c) (h3 : Btw D b x c) (k1 : Btw D a y b) (k2 : Btw D a y c) (k3 : Btw D b y c) : x = y := by
  refine t.eq x y hx hy ?_
  obtain ⟨q1, q2, q3⟩ := t.sums ha hb hx hy
  have := t.sym b x hb hx
  have := t.sym b y hb hy
  have := t.sym c x hc hx
  have := t.sym c y hc hy
  have := t.nn x y hx hy
  unfold Btw at *
  omega
theorem TreeU.mid_l (t : TreeU D U) {u x v z : Int} (hu : U u) (hx : U x) (hv : U v) (hz : U z) (h : Btw D u x v) (k : Btw D u z x) : Btw D u z v ∧ Btw D z x v := by
  have := t.tri hu hv hz
  have := t.tri hz hv hx
  unfold Btw at *
  omega
theorem TreeU.mid_ne (t : TreeU D U) {u x v z : Int} (hu : U u) (hx : U x) (hv : U v) (h : Btw D u x v) (n : x ≠ v) (k : Btw D u z x) : z ≠ v := fun e => by
  subst e
  have := t.pos hx hv n
  have := t.sym x z hx hv
  unfold Btw at *
  omega
structure Rp (D : Int → Int → Int) (ks : List Int) (nb : Int → List Int) : Prop where
  nd : ∀ u ∈ ks, (nb u).Nodup
  adj : ∀ u ∈ ks, ∀ v, v ∈ nb u ↔ v ∈ ks ∧ v ≠ u ∧ ∀ x ∈ ks, x ≠ u → x ≠ v → ¬ Btw D u x v
  med : ∀ u ∈ ks, ∀ v ∈ ks, ∀ w ∈ ks, ∃ m ∈ ks, Btw D u m v ∧ Btw D u m w ∧ Btw D v m w
theorem Rp.sym (r : Rp D ks nb) (t : TreeU D U) (hU : ∀ u ∈ ks, U u) {u v : Int} (hu : u ∈ ks) (h : v ∈ nb u) : u ∈ nb v := by
  obtain ⟨a, b, c⟩ := (r.adj u hu v).mp h
  refine (r.adj v a u).mpr ⟨hu, Ne.symm b, fun x hx n1 n2 k => c x hx n2 n1 (k.sym t (hU v a) (hU x hx) (hU u hu))⟩
/-- x lies between two of its neighbours -/
theorem Rp.through (r : Rp D ks nb) (t : TreeU D U) (hU : ∀ u ∈ ks, U u) {x p q : Int} (hx : x ∈ ks) (hp : p ∈ nb x) (hq : q ∈ nb x) (n : p ≠ q) : Btw D p x q := by
  obtain ⟨p1, p2, p3⟩ := (r.adj x hx p).mp hp
  obtain ⟨q1, q2, q3⟩ := (r.adj x hx q).mp hq
  obtain ⟨m, hm, m1, m2, m3⟩ := r.med x hx p p1 q q1
  by_cases c1 : m = x
  · rw [← c1]
    exact m3
  · by_cases c2 : m = p
    · subst c2
      exact absurd m2 (q3 m hm c1 n)
    · exact absurd m1 (p3 m hm c1 c2)
theorem min_of {p : Int → Prop} (f : Int → Int) : ∀ l : List Int, (∃ z ∈ l, p z) → ∃ y ∈ l, p y ∧ ∀ z ∈ l, p z → f y ≤ f z
  | [], h => by
    obtain ⟨z, hz, _⟩ := h
    cases hz
  | a :: l, h => by
    by_cases c : ∃ z ∈ l, p z
    · obtain ⟨y, y1, y2, y3⟩ := min_of f l c
      by_cases d : p a ∧ f a < f y
      · refine ⟨a, List.mem_cons_self, d.1, fun z hz pz => ?_⟩
        rcases List.mem_cons.mp hz with rfl | hz
        · exact Int.le_refl _
        · have := y3 z hz pz
          omega
      · refine ⟨y, List.mem_cons_of_mem _ y1, y2, fun z hz pz => ?_⟩
        rcases List.mem_cons.mp hz with rfl | hz
        · by_cases e : f z < f y
          · exact absurd ⟨pz, e⟩ d
          · omega
        · exact y3 z hz pz
    · obtain ⟨z, hz, pz⟩ := h
      refine ⟨z, hz, pz, fun w hw pw => ?_⟩
      rcases List.mem_cons.mp hw with e | hw
      · rcases List.mem_cons.mp hz with e2 | hz
        · rw [e, e2]
          exact Int.le_refl _
        · exact absurd ⟨z, hz, pz⟩ c
      · exact absurd ⟨w, hw, pw⟩ c
/-- the neighbour on the way from x to u -/
theorem Rp.toward (r : Rp D ks nb) (t : TreeU D U) (hU : ∀ u ∈ ks, U u) {x u : Int} (hx : x ∈ ks) (hu : u ∈ ks) (n : x ≠ u) : ∃ y ∈ nb x, Btw D x y u := by
  have s : Btw D x u u := by
    have := t.self u (hU u hu)
    unfold Btw
    omega
  obtain ⟨y, hy, ⟨y1, y2⟩, y3⟩ := min_of (p := fun y => y ≠ x ∧ Btw D x y u) (fun y => D x y) ks ⟨u, hu, Ne.symm n, s⟩
  refine ⟨y, (r.adj x hx y).mpr ⟨hy, y1, fun z hz n1 n2 k => ?_⟩, y2⟩
  have hzy := t.pos (hU z hz) (hU y hy) n2
  have m := (t.mid_l (hU x hx) (hU y hy) (hU u hu) (hU z hz) y2 k).1
  have := y3 z hz ⟨n1, m⟩
  unfold Btw at k
  omega
theorem two_lists {l : List Int} (h : l.length ≤ 2) {a b : Int} (ha : a ∈ l) (hb : b ∈ l) (n : a ≠ b) : l = [a, b] ∨ l = [b, a] := by
  match l, h with
  | [], _ => cases ha
  | [c], _ =>
    rw [List.mem_singleton] at ha hb
    exact absurd (ha.trans hb.symm) n
  | [c, d], _ =>
    simp only [List.mem_cons, List.not_mem_nil, or_false] at ha hb
    rcases ha with rfl | rfl <;> rcases hb with rfl | rfl
    · exact absurd rfl n
    · exact .inl rfl
    · exact .inr rfl
    · exact absurd rfl n
/-- what is left at u when x goes -/
def cutN (nb : Int → List Int) (x : Int) : Int → List Int := fun u =>
  match nb x with
  | [a, b] => if u = a then (nb u).erase x ++ [b] else if u = b then (nb u).erase x ++ [a] else (nb u).erase x
  | _ => (nb u).erase x
theorem mem_cutN {nb : Int → List Int} {x u v : Int} (nd : (nb u).Nodup) (nx : (nb x).Nodup) : v ∈ cutN nb x u ↔ (v ∈ nb u ∧ v ≠ x) ∨ ((nb x = [u, v] ∨ nb x = [v, u]) ∧ u ≠ v) := by
  have e : v ∈ (nb u).erase x ↔ v ∈ nb u ∧ v ≠ x := by
    rw [nd.mem_erase_iff]
    exact ⟨fun h => ⟨h.2, h.1⟩, fun h => ⟨h.2, h.1⟩⟩
  unfold cutN
  split
  · rename_i a b h
    rw [h] at nx
    have nab : a ≠ b := by
      simp only [List.nodup_cons, List.mem_singleton] at nx
      exact nx.1
    by_cases c1 : u = a
    · rw [if_pos c1, List.mem_append, e, List.mem_singleton]
      subst c1
      constructor
      · rintro (z | rfl)
        · exact .inl z
        · exact .inr ⟨.inl h, nab⟩
      · rintro (z | ⟨z | z, n⟩)
        · exact .inl z
        · rw [h] at z
          injection z with _ z
          injection z with z
          exact .inr z.symm
        · rw [h] at z
          injection z with z1 z
          exact absurd z1 n
    · rw [if_neg c1]
      by_cases c2 : u = b
      · rw [if_pos c2, List.mem_append, e, List.mem_singleton]
        subst c2
        constructor
        · rintro (z | rfl)
          · exact .inl z
          · exact .inr ⟨.inr h, Ne.symm nab⟩
        · rintro (z | ⟨z | z, n⟩)
          · exact .inl z
          · rw [h] at z
            injection z with z1 z
            exact absurd z1.symm c1
          · rw [h] at z
            injection z with z1 z
            exact .inr z1.symm
      · rw [if_neg c2, e]
        constructor
        · exact .inl
        · rintro (z | ⟨z | z, n⟩)
          · exact z
          · rw [h] at z
            injection z with z1 z
            exact absurd z1.symm c1
          · rw [h] at z
            injection z with z1 z
            injection z with z2 z
            exact absurd z2.symm c2
  · rename_i h
    rw [e]
    constructor
    · exact .inl
    · rintro (z | ⟨z | z, n⟩)
      · exact z
      · exact absurd z (h _ _)
      · exact absurd z (h _ _)
/-- a node with less than three ties goes -/
theorem Rp.cut (r : Rp D ks nb) (t : TreeU D U) (hU : ∀ u ∈ ks, U u) (nk : ks.Nodup) {x : Int} (hx : x ∈ ks) (few : (nb x).length < 3) : Rp D (ks.erase x) (cutN nb x) := by
  have me : ∀ {u}, u ∈ ks.erase x ↔ u ≠ x ∧ u ∈ ks := fun {u} => nk.mem_erase_iff
  have nxx : x ∉ nb x := fun z => ((r.adj x hx x).mp z).2.1 rfl
  have key : ∀ a b, a ∈ nb x → b ∈ nb x → a ≠ b → b ∉ nb a := fun a b ha hb n z => by
    obtain ⟨a1, a2, _⟩ := (r.adj x hx a).mp ha
    obtain ⟨b1, b2, _⟩ := (r.adj x hx b).mp hb
    exact ((r.adj a a1 b).mp z).2.2 x hx (Ne.symm a2) (Ne.symm b2) (r.through t hU hx ha hb n)
  refine ⟨fun u hu => ?_, fun u hu v => ?_, fun u hu v hv w hw => ?_⟩
  · obtain ⟨u1, u2⟩ := me.mp hu
    have e1 := (r.nd u u2).erase x
    unfold cutN
    split
    · rename_i a b h
      have nx := r.nd x hx
      rw [h] at nx
      have nab : a ≠ b := by
        simp only [List.nodup_cons, List.mem_singleton] at nx
        exact nx.1
      have ha : a ∈ nb x := by rw [h]; exact List.mem_cons_self
      have hb : b ∈ nb x := by rw [h]; exact List.mem_cons_of_mem _ List.mem_cons_self
      split
      · rename_i c
        subst c
        refine List.nodup_append.mpr ⟨e1, by simp, fun y hy z hz e => ?_⟩
        rw [List.mem_singleton.mp hz] at e
        rw [e] at hy
        exact key u b ha hb nab (List.mem_of_mem_erase hy)
      · split
        · rename_i c
          subst c
          refine List.nodup_append.mpr ⟨e1, by simp, fun y hy z hz e => ?_⟩
          rw [List.mem_singleton.mp hz] at e
          rw [e] at hy
          exact key u a hb ha (Ne.symm nab) (List.mem_of_mem_erase hy)
        · exact e1
    · exact e1
  · obtain ⟨u1, u2⟩ := me.mp hu
    rw [mem_cutN (r.nd u u2) (r.nd x hx)]
    constructor
    · rintro (⟨h, n⟩ | ⟨h, n⟩)
      · obtain ⟨v1, v2, v3⟩ := (r.adj u u2 v).mp h
        exact ⟨me.mpr ⟨n, v1⟩, v2, fun z hz => v3 z (me.mp hz).2⟩
      · have hu3 : u ∈ nb x := by rcases h with h | h <;> rw [h] <;> simp
        have hv3 : v ∈ nb x := by rcases h with h | h <;> rw [h] <;> simp
        obtain ⟨v1, v2, v3⟩ := (r.adj x hx v).mp hv3
        obtain ⟨w1, w2, w3⟩ := (r.adj x hx u).mp hu3
        refine ⟨me.mpr ⟨v2, v1⟩, Ne.symm n, fun z hz n1 n2 k => ?_⟩
        obtain ⟨z1, z2⟩ := me.mp hz
        have th := r.through t hU hx hu3 hv3 n
        rcases t.line (hU u u2) (hU x hx) (hU v v1) (hU z z2) th k with l | l
        · exact w3 z z2 z1 n1 (l.sym t (hU u u2) (hU z z2) (hU x hx))
        · exact v3 z z2 z1 n2 l
    · rintro ⟨hv, n, h⟩
      obtain ⟨v1, v2⟩ := me.mp hv
      by_cases c : Btw D u x v
      · have a1 : u ∈ nb x := r.sym t hU u2 ((r.adj u u2 x).mpr ⟨hx, Ne.symm u1, fun z hz n1 n2 k => h z (me.mpr ⟨n2, hz⟩) n1 (t.mid_ne (hU u u2) (hU x hx) (hU v v2) c (Ne.symm v1) k) (t.mid_l (hU u u2) (hU x hx) (hU v v2) (hU z hz) c k).1⟩)
        have c' := c.sym t (hU u u2) (hU x hx) (hU v v2)
        have a2 : v ∈ nb x := r.sym t hU v2 ((r.adj v v2 x).mpr ⟨hx, Ne.symm v1, fun z hz n1 n2 k => h z (me.mpr ⟨n2, hz⟩) (t.mid_ne (hU v v2) (hU x hx) (hU u u2) c' (Ne.symm u1) k) n1 ((t.mid_l (hU v v2) (hU x hx) (hU u u2) (hU z hz) c' k).1.sym t (hU v v2) (hU z hz) (hU u u2))⟩)
        exact .inr ⟨two_lists (by omega) a1 a2 (Ne.symm n), Ne.symm n⟩
      · refine .inl ⟨(r.adj u u2 v).mpr ⟨v2, n, fun z hz n1 n2 k => ?_⟩, v1⟩
        by_cases cz : z = x
        · subst cz
          exact c k
        · exact h z (me.mpr ⟨cz, hz⟩) n1 n2 k
  · obtain ⟨u1, u2⟩ := me.mp hu
    obtain ⟨v1, v2⟩ := me.mp hv
    obtain ⟨w1, w2⟩ := me.mp hw
    obtain ⟨m, hm, m1, m2, m3⟩ := r.med u u2 v v2 w w2
    by_cases c : m = x
    · exfalso
      subst c
      obtain ⟨a, ha, a1⟩ := r.toward t hU hm u2 (Ne.symm u1)
      obtain ⟨b, hb, b1⟩ := r.toward t hU hm v2 (Ne.symm v1)
      obtain ⟨c, hc, c1⟩ := r.toward t hU hm w2 (Ne.symm w1)
      have ne : ∀ {u v a : Int}, u ∈ ks → v ∈ ks → a ∈ nb m → Btw D m a u → Btw D m a v → Btw D u m v → False := fun {u v a} hu hv ha a1 a2 k => by
        obtain ⟨x1, x2, _⟩ := (r.adj m hm a).mp ha
        have := t.tri (hU u hu) (hU v hv) (hU a x1)
        have := t.pos (hU m hm) (hU a x1) (Ne.symm x2)
        have := t.sym a u (hU a x1) (hU u hu)
        have := t.sym m u (hU m hm) (hU u hu)
        unfold Btw at *
        omega
      have nab : a ≠ b := fun e => by subst e; exact ne u2 v2 ha a1 b1 m1
      have nac : a ≠ c := fun e => by subst e; exact ne u2 w2 ha a1 c1 m2
      have nbc : b ≠ c := fun e => by subst e; exact ne v2 w2 hb b1 c1 m3
      rcases two_lists (by omega) ha hb nab with e | e
      all_goals
        rw [e] at hc
        simp only [List.mem_cons, List.not_mem_nil, or_false] at hc
        rcases hc with rfl | rfl
        · first | exact nac rfl | exact nbc rfl
        · first | exact nbc rfl | exact nac rfl
    · exact ⟨m, me.mpr ⟨c, hm⟩, m1, m2, m3⟩
end

/-! ### what ties are, as a tree of worlds -/
section
variable {D : Int → Int → Int} {ever w : Int} {liv liv' ks ks' : List Int} {nb nb' : Int → List Int}
def Un (ever : Int) (x : Int) : Prop := 0 ≤ x ∧ x < ever
structure Tr3 (D : Int → Int → Int) (ever : Int) (liv ks : List Int) (nb : Int → List Int) : Prop where
  t : TreeU D (Un ever)
  hU : ∀ u ∈ ks, Un ever u
  rp : Rp D ks nb
  nk : ks.Nodup
  nl : liv.Nodup
  sub : ∀ x ∈ liv, x ∈ ks
  red : ∀ x ∈ ks, x ∉ liv → 3 ≤ (nb x).length
  e0 : 0 < ever
theorem sub_len : ∀ {l m : List Int}, l.Nodup → (∀ x ∈ l, x ∈ m) → l.length ≤ m.length
  | [], _, _, _ => Nat.zero_le _
  | a :: l, m, n, h => by
    rw [List.nodup_cons] at n
    have ha := h a List.mem_cons_self
    have e := List.length_erase_of_mem ha
    have ih := sub_len (m := m.erase a) n.2 fun x hx => (List.mem_erase_of_ne (fun z => n.1 (by rw [← z]; exact hx))).mpr (h x (List.mem_cons_of_mem _ hx))
    have := List.length_pos_of_mem ha
    rw [List.length_cons]
    omega
theorem un_len {l : List Int} (n : l.Nodup) (h : ∀ x ∈ l, Un ever x) : l.length ≤ ever.toNat := by
  have := sub_len (m := (List.range ever.toNat).map Int.ofNat) n fun x hx => by
    obtain ⟨a, b⟩ := h x hx
    refine List.mem_map.mpr ⟨x.toNat, List.mem_range.mpr (by omega), ?_⟩
    show (x.toNat : Int) = x
    omega
  rw [List.length_map, List.length_range] at this
  exact this
theorem Tr3.klen (z : Tr3 D ever liv ks nb) : ks.length ≤ ever.toNat := un_len z.nk z.hU
theorem Tr3.nlen (z : Tr3 D ever liv ks nb) {u : Int} (hu : u ∈ ks) : (nb u).length ≤ ever.toNat := un_len (z.rp.nd u hu) fun x hx => z.hU x ((z.rp.adj u hu x).mp hx).1
theorem Tr3.llen (z : Tr3 D ever liv ks nb) : liv.length ≤ ever.toNat := un_len z.nl fun x hx => z.hU x (z.sub x hx)
/-- the same ties, told in another order -/
theorem Rp.alike (r : Rp D ks nb) (m : ∀ x, x ∈ ks' ↔ x ∈ ks) (nd : ∀ u ∈ ks, (nb' u).Nodup) (h : ∀ u ∈ ks, ∀ v, v ∈ nb' u ↔ v ∈ nb u) : Rp D ks' nb' :=
  ⟨fun u hu => nd u ((m u).mp hu), fun u hu v => by
    rw [h u ((m u).mp hu), r.adj u ((m u).mp hu), m]
    exact ⟨fun ⟨a, b, c⟩ => ⟨a, b, fun x hx => c x ((m x).mp hx)⟩, fun ⟨a, b, c⟩ => ⟨a, b, fun x hx => c x ((m x).mpr hx)⟩⟩, fun u hu v hv w hw => by
    obtain ⟨x, x1, x2⟩ := r.med u ((m u).mp hu) v ((m v).mp hv) w ((m w).mp hw)
    exact ⟨x, (m x).mpr x1, x2⟩⟩
theorem nd_perm {l m : List Int} (h1 : l.Nodup) (h2 : m.Nodup) (h : ∀ x, x ∈ l ↔ x ∈ m) : l.Perm m := (List.perm_ext_iff_of_nodup h1 h2).mpr fun a => h a
theorem Tr3.alike (z : Tr3 D ever liv ks nb) (nk : ks'.Nodup) (m : ∀ x, x ∈ ks' ↔ x ∈ ks) (nl : liv'.Nodup) (ml : ∀ x, x ∈ liv' ↔ x ∈ liv) (nd : ∀ u ∈ ks, (nb' u).Nodup) (h : ∀ u ∈ ks, ∀ v, v ∈ nb' u ↔ v ∈ nb u) : Tr3 D ever liv' ks' nb' :=
  ⟨z.t, fun u hu => z.hU u ((m u).mp hu), z.rp.alike m nd h, nk, nl, fun x hx => (m x).mpr (z.sub x ((ml x).mp hx)), fun x hx n => by
    have hx' := (m x).mp hx
    rw [(nd_perm (nd x hx') (z.rp.nd x hx') (h x hx')).length_eq]
    exact z.red x hx' fun q => n ((ml x).mpr q), z.e0⟩
def D0 : Int → Int → Int := fun _ _ => 0
theorem tr3_init : Tr3 D0 1 [0] [0] (fun _ => []) := by
  have e : ∀ u, Un 1 u → u = 0 := fun u h => by
    obtain ⟨a, b⟩ := h
    omega
  refine ⟨⟨fun _ _ _ _ => Int.le_refl _, fun _ _ => rfl, fun u v hu hv _ => by rw [e u hu, e v hv], fun _ _ _ _ => rfl, fun _ _ _ _ _ _ _ _ => .inl (Int.le_refl _)⟩, fun u hu => ?_, ⟨fun _ _ => List.nodup_nil, fun u hu v => ?_, fun u _ _ _ _ _ => ⟨0, List.mem_singleton.mpr rfl, rfl, rfl, rfl⟩⟩, by simp, by simp, fun _ h => h, fun x hx n => absurd hx n, by decide⟩
  · rw [List.mem_singleton.mp hu]
    exact ⟨Int.le_refl _, by decide⟩
  · constructor
    · intro h
      cases h
    · rintro ⟨a, b, _⟩
      rw [List.mem_singleton.mp hu, List.mem_singleton.mp a] at b
      exact absurd rfl b
/-- a fork: n hangs at w -/
def Dk (D : Int → Int → Int) (n w : Int) : Int → Int → Int := fun u v => if u = n then (if v = n then 0 else D w v + 1) else if v = n then D u w + 1 else D u v
theorem dk_old {n u v : Int} (hu : u ≠ n) (hv : v ≠ n) : Dk D n w u v = D u v := by
  unfold Dk
  rw [if_neg hu, if_neg hv]
theorem dk_nl {n v : Int} (hv : v ≠ n) : Dk D n w n v = D w v + 1 := by
  unfold Dk
  rw [if_pos rfl, if_neg hv]
theorem dk_nr {n u : Int} (hu : u ≠ n) : Dk D n w u n = D u w + 1 := by
  unfold Dk
  rw [if_neg hu, if_pos rfl]
theorem dk_nn {n : Int} : Dk D n w n n = 0 := by
  unfold Dk
  rw [if_pos rfl, if_pos rfl]
theorem TreeU.fork (t : TreeU D (Un ever)) (hw : Un ever w) : TreeU (Dk D ever w) (Un (ever + 1)) := by
  have old : ∀ {u}, Un (ever + 1) u → u = ever ∨ (u ≠ ever ∧ Un ever u) := fun {u} h => by
    obtain ⟨a, b⟩ := h
    by_cases c : u = ever
    · exact .inl c
    · exact .inr ⟨c, a, by omega⟩
  have sw := t.self w hw
  refine ⟨fun u v hu hv => ?_, fun u hu => ?_, fun u v hu hv h => ?_, fun u v hu hv => ?_, fun a b c d ha hb hc hd => ?_⟩
  · rcases old hu with rfl | ⟨u1, u2⟩ <;> rcases old hv with rfl | ⟨v1, v2⟩
    · rw [dk_nn]; exact Int.le_refl _
    · rw [dk_nl v1]; have := t.nn w v hw v2; omega
    · rw [dk_nr u1]; have := t.nn u w u2 hw; omega
    · rw [dk_old u1 v1]; exact t.nn u v u2 v2
  · rcases old hu with rfl | ⟨u1, u2⟩
    · rw [dk_nn]
    · rw [dk_old u1 u1]; exact t.self u u2
  · rcases old hu with rfl | ⟨u1, u2⟩ <;> rcases old hv with rfl | ⟨v1, v2⟩
    · rfl
    · rw [dk_nl v1] at h; have := t.nn w v hw v2; omega
    · rw [dk_nr u1] at h; have := t.nn u w u2 hw; omega
    · rw [dk_old u1 v1] at h; exact t.eq u v u2 v2 h
  · rcases old hu with rfl | ⟨u1, u2⟩ <;> rcases old hv with rfl | ⟨v1, v2⟩
    · rfl
    · rw [dk_nl v1, dk_nr v1, t.sym w v hw v2]
    · rw [dk_nl u1, dk_nr u1, t.sym w u hw u2]
    · rw [dk_old u1 v1, dk_old v1 u1, t.sym u v u2 v2]
  · rcases old ha with rfl | ⟨a1, a2⟩ <;> rcases old hb with rfl | ⟨b1, b2⟩ <;> rcases old hc with rfl | ⟨c1, c2⟩ <;> rcases old hd with rfl | ⟨d1, d2⟩
    · simp only [dk_nn]; omega
    · simp only [dk_nn, dk_nl d1]; omega
    · simp only [dk_nn, dk_nl c1, dk_nr c1]; have := t.sym w c hw c2; omega
    · simp only [dk_nn, dk_nl d1, dk_nl c1, dk_old c1 d1]
      have := t.tri c2 d2 hw
      have := t.sym w c hw c2
      omega
    · simp only [dk_nn, dk_nl b1, dk_nr b1]; have := t.sym w b hw b2; omega
    · simp only [dk_nn, dk_nl d1, dk_nl b1, dk_nr b1, dk_old b1 d1]
      have := t.tri b2 d2 hw
      have := t.sym w b hw b2
      omega
    · simp only [dk_nn, dk_nl c1, dk_nr c1, dk_nl b1, dk_nr b1, dk_old b1 c1]
      have := t.tri b2 c2 hw
      have := t.sym w b hw b2
      have := t.sym w c hw c2
      omega
    · simp only [dk_nl d1, dk_nl b1, dk_nl c1, dk_old b1 d1, dk_old c1 d1, dk_old b1 c1]
      have := t.four w b c d hw b2 c2 d2
      omega
    · simp only [dk_nn, dk_nr a1]; omega
    · simp only [dk_nn, dk_nl d1, dk_nr a1, dk_old a1 d1]
      have := t.tri a2 d2 hw
      omega
    · simp only [dk_nn, dk_nl c1, dk_nr c1, dk_nr a1, dk_old a1 c1]
      have := t.tri a2 c2 hw
      have := t.sym w c hw c2
      omega
    · simp only [dk_nl d1, dk_nr a1, dk_nl c1, dk_old a1 d1, dk_old c1 d1, dk_old a1 c1]
      have := t.four a w c d a2 hw c2 d2
      omega
    · simp only [dk_nn, dk_nr a1, dk_nr b1, dk_old a1 b1]
      have := t.tri a2 b2 hw
      have := t.sym w b hw b2
      omega
    · simp only [dk_nl d1, dk_nr a1, dk_nr b1, dk_old a1 b1, dk_old b1 d1, dk_old a1 d1]
      have := t.four a b w d a2 b2 hw d2
      omega
    · simp only [dk_nr a1, dk_nr b1, dk_nr c1, dk_old a1 b1, dk_old b1 c1, dk_old a1 c1]
      have := t.four a b c w a2 b2 c2 hw
      omega
    · rw [dk_old a1 b1, dk_old c1 d1, dk_old a1 c1, dk_old b1 d1, dk_old a1 d1, dk_old b1 c1]
      exact t.four a b c d a2 b2 c2 d2
def forkN (nb : Int → List Int) (n w : Int) : Int → List Int := fun u => if u = n then [w] else if u = w then nb u ++ [n] else nb u
theorem Rp.fork (r : Rp D ks nb) (t : TreeU D (Un ever)) (hU : ∀ u ∈ ks, Un ever u) (hw : w ∈ ks) : Rp (Dk D ever w) (ks ++ [ever]) (forkN nb ever w) := by
  have old : ∀ {u}, u ∈ ks → u ≠ ever := fun {u} h e => by
    obtain ⟨a, b⟩ := hU u h
    omega
  have hwU := hU w hw
  have nin : ∀ {u}, u ∈ ks → ever ∉ nb u := fun {u} hu z => old ((r.adj u hu ever).mp z).1 rfl
  have me : ∀ {u}, u ∈ ks ++ [ever] ↔ u ∈ ks ∨ u = ever := fun {u} => by rw [List.mem_append, List.mem_singleton]
  have sw := t.self w hwU
  refine ⟨fun u hu => ?_, fun u hu v => ?_, fun u hu v hv x hx => ?_⟩
  · unfold forkN
    split
    · simp
    · rename_i c
      have hu' := (me.mp hu).resolve_right c
      split
      · exact List.nodup_append.mpr ⟨r.nd u hu', by simp, fun a ha b hb e => nin hu' (by rw [List.mem_singleton.mp hb] at e; rw [← e]; exact ha)⟩
      · exact r.nd u hu'
  · unfold forkN
    by_cases c : u = ever
    · subst c
      rw [if_pos rfl, List.mem_singleton]
      constructor
      · rintro rfl
        refine ⟨me.mpr (.inl hw), old hw, fun x hx n1 n2 k => ?_⟩
        have hx' := (me.mp hx).resolve_right n1
        unfold Btw at k
        rw [dk_nl n1, dk_nl (old hw), dk_old n1 (old hw)] at k
        have := t.pos (hU v hw) (hU x hx') (Ne.symm n2)
        have := t.sym v x hwU (hU x hx')
        omega
      · rintro ⟨a, b, h⟩
        have hv' := (me.mp a).resolve_right b
        refine Classical.byContradiction fun n => h w (me.mpr (.inl hw)) (old hw) (fun z => n z.symm) ?_
        unfold Btw
        rw [dk_nl (old hw), dk_nl b, dk_old (old hw) b]
        omega
    · rw [if_neg c]
      have hu' := (me.mp hu).resolve_right c
      by_cases cv : v = ever
      · subst cv
        by_cases cw : u = w
        · subst cw
          rw [if_pos rfl]
          refine ⟨fun _ => ⟨me.mpr (.inr rfl), Ne.symm c, fun x hx n1 n2 k => ?_⟩, fun _ => List.mem_append.mpr (.inr (List.mem_singleton.mpr rfl))⟩
          have hx' := (me.mp hx).resolve_right n2
          unfold Btw at k
          rw [dk_old c n2, dk_nr n2, dk_nr c] at k
          have := t.pos hwU (hU x hx') (Ne.symm n1)
          have := t.sym u x hwU (hU x hx')
          omega
        · rw [if_neg cw]
          refine ⟨fun z => absurd z (nin hu'), fun ⟨_, _, h⟩ => ?_⟩
          refine absurd ?_ (h w (me.mpr (.inl hw)) (fun z => cw z.symm) (old hw))
          unfold Btw
          rw [dk_old c (old hw), dk_nr (old hw), dk_nr c]
          omega
      · have e : (v ∈ if u = w then nb u ++ [ever] else nb u) ↔ v ∈ nb u := by
          split
          · rw [List.mem_append, List.mem_singleton]
            exact ⟨fun z => z.resolve_right cv, .inl⟩
          · exact Iff.rfl
        rw [e, r.adj u hu' v]
        constructor
        · rintro ⟨a, b, h⟩
          refine ⟨me.mpr (.inl a), b, fun x hx n1 n2 k => ?_⟩
          unfold Btw at k
          rcases me.mp hx with hx' | rfl
          · rw [dk_old c (old hx'), dk_old (old hx') cv, dk_old c cv] at k
            exact h x hx' n1 n2 k
          · rw [dk_nr c, dk_nl cv, dk_old c cv] at k
            have := t.tri (hU u hu') (hU v a) hwU
            omega
        · rintro ⟨a, b, h⟩
          refine ⟨(me.mp a).resolve_right cv, b, fun x hx n1 n2 k => h x (me.mpr (.inl hx)) n1 n2 ?_⟩
          unfold Btw at k ⊢
          rw [dk_old c (old hx), dk_old (old hx) cv, dk_old c cv]
          exact k
  · -- medians
    have self : ∀ {u}, u ∈ ks → D u u = 0 := fun {u} h => t.self u (hU u h)
    have bo : ∀ {a b c}, a ∈ ks → b ∈ ks → c ∈ ks → Btw D a b c → Btw (Dk D ever w) a b c := fun {a b c} ha hb hc h => by
      unfold Btw at h ⊢
      rw [dk_old (old ha) (old hb), dk_old (old hb) (old hc), dk_old (old ha) (old hc)]
      exact h
    have bl : ∀ {b c}, b ∈ ks → c ∈ ks → Btw D w b c → Btw (Dk D ever w) ever b c := fun {b c} hb hc h => by
      unfold Btw at h ⊢
      rw [dk_nl (old hb), dk_old (old hb) (old hc), dk_nl (old hc)]
      omega
    have br : ∀ {a b}, a ∈ ks → b ∈ ks → Btw D a b w → Btw (Dk D ever w) a b ever := fun {a b} ha hb h => by
      unfold Btw at h ⊢
      rw [dk_nr (old hb), dk_old (old ha) (old hb), dk_nr (old ha)]
      omega
    have en : ∀ {a}, a ∈ ks → Btw (Dk D ever w) a ever ever ∧ Btw (Dk D ever w) ever ever a := fun {a} ha => by
      unfold Btw
      rw [dk_nn, dk_nr (old ha), dk_nl (old ha)]
      omega
    have nn : Btw (Dk D ever w) ever ever ever := by
      unfold Btw
      rw [dk_nn]
      omega
    replace hu := me.mp hu
    replace hv := me.mp hv
    replace hx := me.mp hx
    rcases hu with hu | rfl <;> rcases hv with hv | rfl <;> rcases hx with hx | rfl
    · obtain ⟨m, hm, m1, m2, m3⟩ := r.med u hu v hv x hx
      exact ⟨m, me.mpr (.inl hm), bo hu hm hv m1, bo hu hm hx m2, bo hv hm hx m3⟩
    · obtain ⟨m, hm, m1, m2, m3⟩ := r.med u hu v hv w hw
      exact ⟨m, me.mpr (.inl hm), bo hu hm hv m1, br hu hm m2, br hv hm m3⟩
    · obtain ⟨m, hm, m1, m2, m3⟩ := r.med u hu w hw x hx
      exact ⟨m, me.mpr (.inl hm), br hu hm m1, bo hu hm hx m2, bl hm hx m3⟩
    · exact ⟨_, me.mpr (.inr rfl), (en hu).1, (en hu).1, nn⟩
    · obtain ⟨m, hm, m1, m2, m3⟩ := r.med w hw v hv x hx
      exact ⟨m, me.mpr (.inl hm), bl hm hv m1, bl hm hx m2, bo hv hm hx m3⟩
    · exact ⟨_, me.mpr (.inr rfl), (en hv).2, nn, (en hv).1⟩
    · exact ⟨_, me.mpr (.inr rfl), nn, (en hx).2, (en hx).2⟩
    · exact ⟨_, me.mpr (.inr rfl), nn, nn, nn⟩
theorem Tr3.fork (z : Tr3 D ever liv ks nb) (hw : w ∈ ks) : Tr3 (Dk D ever w) (ever + 1) (liv ++ [ever]) (ks ++ [ever]) (forkN nb ever w) := by
  have old : ∀ {u}, u ∈ ks → u ≠ ever := fun {u} h e => by
    obtain ⟨a, b⟩ := z.hU u h
    omega
  refine ⟨z.t.fork (z.hU w hw), fun u hu => ?_, z.rp.fork z.t z.hU hw, ?_, ?_, fun x hx => ?_, fun x hx n => ?_, by have := z.e0; omega⟩
  · rcases List.mem_append.mp hu with h | h
    · obtain ⟨a, b⟩ := z.hU u h
      exact ⟨a, by omega⟩
    · rw [List.mem_singleton.mp h]
      have := z.e0
      exact ⟨by omega, by omega⟩
  · exact List.nodup_append.mpr ⟨z.nk, by simp, fun a ha b hb e => old ha (by rw [e, List.mem_singleton.mp hb])⟩
  · exact List.nodup_append.mpr ⟨z.nl, by simp, fun a ha b hb e => old (z.sub a ha) (by rw [e, List.mem_singleton.mp hb])⟩
  · rcases List.mem_append.mp hx with h | h
    · exact List.mem_append.mpr (.inl (z.sub x h))
    · exact List.mem_append.mpr (.inr h)
  · rw [List.mem_append, not_or] at n
    rcases List.mem_append.mp hx with h | h
    · have := z.red x h n.1
      unfold forkN
      rw [if_neg (old h)]
      split
      · rw [List.length_append]
        omega
      · exact this
    · exact absurd h n.2
/-! ### what stays: the living and the medians of three -/
theorem TreeU.join {U : Int → Prop} (t : TreeU D U) {p x q y z : Int} (hp : U p) (hx : U x) (hq : U q) (hy : U y) (hz : U z) (nxp : x ≠ p) (nxq : x ≠ q) (th : Btw D p x q) (h1 : Btw D x p y) (h2 : Btw D x q z) : Btw D y x z := by
  have a1 := t.pos hx hp nxp
  have a2 := t.pos hx hq nxq
  obtain ⟨q1, q2, q3⟩ := t.sums hx hq hp hy
  obtain ⟨r1, r2, r3⟩ := t.sums hx hy hq hz
  have s1 := t.sym p x hp hx
  have s2 := t.sym p q hp hq
  have s3 := t.sym x q hx hq
  have s4 := t.sym x y hx hy
  have s5 := t.sym q y hq hy
  have s6 := t.sym p y hp hy
  have tr := t.tri hy hz hx
  have tr2 := t.tri hy hq hx
  have tr3 := t.tri hy hq hp
  unfold Btw at *
  omega
theorem max_of {p : Int → Prop} (f : Int → Int) (l : List Int) (h : ∃ z ∈ l, p z) : ∃ y ∈ l, p y ∧ ∀ z ∈ l, p z → f z ≤ f y := by
  obtain ⟨y, y1, y2, y3⟩ := min_of (fun x => - f x) l h
  refine ⟨y, y1, y2, fun z hz pz => ?_⟩
  have := y3 z hz pz
  omega
theorem two_of {l : List Int} (nd : l.Nodup) (h : 3 ≤ l.length) (x : Int) : ∃ a ∈ l, a ≠ x := by
  match l, h with
  | a :: b :: _, _ =>
    by_cases c : a = x
    · refine ⟨b, by simp, fun e => ?_⟩
      rw [List.nodup_cons] at nd
      refine nd.1 ?_
      rw [c, ← e]
      exact List.mem_cons_self
    · exact ⟨a, by simp, c⟩
/-- beyond each neighbour there is one that lives -/
theorem Tr3.leaf (z : Tr3 D ever liv ks nb) {x p : Int} (hx : x ∈ ks) (hp : p ∈ nb x) : ∃ y ∈ liv, Btw D x p y := by
  obtain ⟨p1, p2, p3⟩ := (z.rp.adj x hx p).mp hp
  have s : Btw D x p p := by
    have := z.t.self p (z.hU p p1)
    unfold Btw
    omega
  obtain ⟨y, y1, y2, y3⟩ := max_of (p := fun y => Btw D x p y) (fun y => D x y) ks ⟨p, p1, s⟩
  refine Classical.byContradiction fun n => ?_
  have yl : y ∉ liv := fun h => n ⟨y, h, y2⟩
  have nyx : y ≠ x := fun e => by
    subst e
    have := z.t.pos (z.hU y hx) (z.hU p p1) (Ne.symm p2)
    have := z.t.self y (z.hU y hx)
    have := z.t.sym y p (z.hU y hx) (z.hU p p1)
    unfold Btw at y2
    omega
  have hxU := z.hU x hx
  have hyU := z.hU y y1
  have hpU := z.hU p p1
  obtain ⟨v, hv, v1⟩ := z.rp.toward z.t z.hU y1 hx nyx
  obtain ⟨u, hu, nu⟩ := two_of (z.rp.nd y y1) (z.red y y1 yl) v
  obtain ⟨u1, u2, u3⟩ := (z.rp.adj y y1 u).mp hu
  obtain ⟨w1, w2, w3⟩ := (z.rp.adj y y1 v).mp hv
  have huU := z.hU u u1
  have hvU := z.hU v w1
  have th := z.rp.through z.t z.hU y1 hu hv nu
  have k : Btw D u y x := z.t.join huU hyU hvU huU hxU (Ne.symm u2) (Ne.symm w2) th (by
    have := z.t.self u huU
    unfold Btw
    omega) v1
  have k' := k.sym z.t huU hyU hxU
  have f := z.t.pos hyU huU (Ne.symm u2)
  have m := y3 u u1 (by
    have := z.t.tri hxU huU hpU
    have := z.t.tri hpU huU hyU
    unfold Btw at *
    omega)
  unfold Btw at k'
  omega
def Med (D : Int → Int → Int) (liv : List Int) (x : Int) : Prop := ∃ a ∈ liv, ∃ b ∈ liv, ∃ c ∈ liv, Btw D a x b ∧ Btw D a x c ∧ Btw D b x c
theorem three_of {l : List Int} (nd : l.Nodup) (h : 3 ≤ l.length) : ∃ a ∈ l, ∃ b ∈ l, ∃ c ∈ l, a ≠ b ∧ a ≠ c ∧ b ≠ c := by
  match l, h with
  | a :: b :: c :: _, _ =>
    simp only [List.nodup_cons, List.mem_cons, not_or] at nd
    exact ⟨a, by simp, b, by simp, c, by simp, nd.1.1, nd.1.2.1, nd.2.1.1⟩
theorem Tr3.char (z : Tr3 D ever liv ks nb) (x : Int) : x ∈ ks ↔ Un ever x ∧ (x ∈ liv ∨ Med D liv x) := by
  constructor
  · intro hx
    refine ⟨z.hU x hx, ?_⟩
    by_cases c : x ∈ liv
    · exact .inl c
    refine .inr ?_
    obtain ⟨p, hp, q, hq, r, hr, n1, n2, n3⟩ := three_of (z.rp.nd x hx) (z.red x hx c)
    obtain ⟨a, ha, a1⟩ := z.leaf hx hp
    obtain ⟨b, hb, b1⟩ := z.leaf hx hq
    obtain ⟨d, hd, d1⟩ := z.leaf hx hr
    obtain ⟨p1, p2, _⟩ := (z.rp.adj x hx p).mp hp
    obtain ⟨q1, q2, _⟩ := (z.rp.adj x hx q).mp hq
    obtain ⟨r1, r2, _⟩ := (z.rp.adj x hx r).mp hr
    have U : ∀ {y}, y ∈ liv → Un ever y := fun {y} h => z.hU y (z.sub y h)
    exact ⟨a, ha, b, hb, d, hd, z.t.join (z.hU p p1) (z.hU x hx) (z.hU q q1) (U ha) (U hb) (Ne.symm p2) (Ne.symm q2) (z.rp.through z.t z.hU hx hp hq n1) a1 b1,
      z.t.join (z.hU p p1) (z.hU x hx) (z.hU r r1) (U ha) (U hd) (Ne.symm p2) (Ne.symm r2) (z.rp.through z.t z.hU hx hp hr n2) a1 d1,
      z.t.join (z.hU q q1) (z.hU x hx) (z.hU r r1) (U hb) (U hd) (Ne.symm q2) (Ne.symm r2) (z.rp.through z.t z.hU hx hq hr n3) b1 d1⟩
  · rintro ⟨hU, h | ⟨a, ha, b, hb, c, hc, h1, h2, h3⟩⟩
    · exact z.sub x h
    · obtain ⟨m, hm, m1, m2, m3⟩ := z.rp.med a (z.sub a ha) b (z.sub b hb) c (z.sub c hc)
      rw [z.t.med1 (z.hU a (z.sub a ha)) (z.hU b (z.sub b hb)) (z.hU c (z.sub c hc)) hU (z.hU m hm) h1 h2 h3 m1 m2 m3]
      exact hm
/-- what the living are says which ties there are -/
theorem Tr3.same (z : Tr3 D ever liv ks nb) (y : Tr3 D ever liv' ks' nb') (h : ∀ x, x ∈ liv ↔ x ∈ liv') : (∀ x, x ∈ ks ↔ x ∈ ks') ∧ ∀ u ∈ ks, ∀ v, v ∈ nb u ↔ v ∈ nb' u := by
  have e : ∀ x, x ∈ ks ↔ x ∈ ks' := fun x => by
    rw [z.char x, y.char x, h x]
    unfold Med
    constructor
    · rintro ⟨a, b | ⟨p, hp, q, hq, r, hr, k⟩⟩
      · exact ⟨a, .inl b⟩
      · exact ⟨a, .inr ⟨p, (h p).mp hp, q, (h q).mp hq, r, (h r).mp hr, k⟩⟩
    · rintro ⟨a, b | ⟨p, hp, q, hq, r, hr, k⟩⟩
      · exact ⟨a, .inl b⟩
      · exact ⟨a, .inr ⟨p, (h p).mpr hp, q, (h q).mpr hq, r, (h r).mpr hr, k⟩⟩
  refine ⟨e, fun u hu v => ?_⟩
  rw [z.rp.adj u hu v, y.rp.adj u ((e u).mp hu) v, e v]
  exact ⟨fun ⟨a, b, c⟩ => ⟨a, b, fun x hx => c x ((e x).mpr hx)⟩, fun ⟨a, b, c⟩ => ⟨a, b, fun x hx => c x ((e x).mp hx)⟩⟩
/-! ### the loop of end -/
structure Going (D : Int → Int → Int) (ever : Int) (liv ks0 : List Int) (ks : List Int) (nb : Int → List Int) (went waiting : List Int) : Prop where
  t : TreeU D (Un ever)
  hU : ∀ u ∈ ks, Un ever u
  rp : Rp D ks nb
  nk : ks.Nodup
  nl : liv.Nodup
  sub : ∀ x ∈ liv, x ∈ ks
  red : ∀ x ∈ ks, x ∉ liv → 3 ≤ (nb x).length ∨ x ∈ waiting
  pm : (ks ++ went).Perm ks0
  wl : waiting.length ≤ 1 + 2 * went.length
  e0 : 0 < ever
theorem Tr3.going (z : Tr3 D ever liv ks nb) : Going D ever (liv.erase w) ks ks nb [] [w] :=
  ⟨z.t, z.hU, z.rp, z.nk, z.nl.erase _, fun x hx => z.sub x (List.mem_of_mem_erase hx), fun x hx n => by
    by_cases c : x = w
    · exact .inr (List.mem_singleton.mpr c)
    · exact .inl (z.red x hx fun h => n ((List.mem_erase_of_ne c).mpr h)), by rw [List.append_nil], by simp, z.e0⟩
theorem Going.tr3 {ks0 went : List Int} (z : Going D ever liv ks0 ks nb went []) : Tr3 D ever liv ks nb :=
  ⟨z.t, z.hU, z.rp, z.nk, z.nl, z.sub, fun x hx n => (z.red x hx n).resolve_right (by simp), z.e0⟩
theorem Going.skip {ks0 went wait : List Int} {x : Int} (z : Going D ever liv ks0 ks nb went (wait ++ [x])) (h : ¬ (x ∈ ks ∧ x ∉ liv ∧ (nb x).length < 3)) : Going D ever liv ks0 ks nb went wait :=
  ⟨z.t, z.hU, z.rp, z.nk, z.nl, z.sub, fun y hy n => by
    rcases z.red y hy n with e | e
    · exact .inl e
    · rcases List.mem_append.mp e with e | e
      · exact .inr e
      · rw [List.mem_singleton] at e
        subst e
        refine .inl ?_
        refine Classical.byContradiction fun k => h ⟨hy, n, by omega⟩, z.pm, by
    have := z.wl
    rw [List.length_append, List.length_singleton] at this
    omega, z.e0⟩
theorem Going.go {ks0 went wait : List Int} {x : Int} (z : Going D ever liv ks0 ks nb went (wait ++ [x])) (hx : x ∈ ks) (n : x ∉ liv) (few : (nb x).length < 3) : Going D ever liv ks0 (ks.erase x) (cutN nb x) (went ++ [x]) (wait ++ nb x) := by
  have me : ∀ {u}, u ∈ ks.erase x ↔ u ≠ x ∧ u ∈ ks := fun {u} => z.nk.mem_erase_iff
  refine ⟨z.t, fun u hu => z.hU u (me.mp hu).2, z.rp.cut z.t z.hU z.nk hx few, z.nk.erase _, z.nl, fun y hy => me.mpr ⟨fun e => n (by rw [← e]; exact hy), z.sub y hy⟩, fun y hy ny => ?_, ?_, ?_, z.e0⟩
  · obtain ⟨y1, y2⟩ := me.mp hy
    by_cases c : y ∈ nb x
    · exact .inr (List.mem_append.mpr (.inr c))
    · rcases z.red y y2 ny with e | e
      · refine .inl ?_
        have nx : x ∉ nb y := fun h => c (z.rp.sym z.t z.hU y2 h)
        have e2 : cutN nb x y = nb y := by
          unfold cutN
          rw [List.erase_of_not_mem nx]
          split
          · rename_i a b h
            rw [h] at c
            simp only [List.mem_cons, List.not_mem_nil, or_false, not_or] at c
            rw [if_neg c.1, if_neg c.2]
          · rfl
        rw [e2]
        exact e
      · rcases List.mem_append.mp e with e | e
        · exact .inr (List.mem_append.mpr (.inl e))
        · exact absurd (List.mem_singleton.mp e) y1
  · refine List.Perm.trans ?_ z.pm
    have e := List.perm_cons_erase hx
    refine List.Perm.trans ?_ (e.symm.append_right went)
    rw [← List.append_assoc]
    refine List.Perm.trans (List.perm_append_comm) ?_
    exact List.Perm.refl _
  · have := z.wl
    rw [List.length_append, List.length_singleton] at this
    rw [List.length_append, List.length_append, List.length_singleton]
    omega
end

/-! ### lists of numbers as data -/
theorem dpa_ints {K : PySem.W.Frag} {H : Hp} : ∀ ns : List Int, DpAll K H (ns.map V.int) (ns.map PyData.int)
  | [] => .nil
  | n :: ns => .cons (.int n) (dpa_ints ns)
theorem dp_ints {K : PySem.W.Frag} {H : Hp} {a : Addr} {ns : List Int} (h : SqL K H a (ns.map V.int)) :
    Dp K H (.ref a) (.list (ns.map PyData.int)) := .lst h (dpa_ints ns)
theorem canLay_ints : ∀ ns : List Int, PyData.canLayAll0 (ns.map PyData.int) = true
  | [] => rfl
  | n :: ns => by
    have h := canLay_ints ns
    rw [List.map_cons]
    simp only [PyData.canLayAll0, PyData.canLay0, h, Bool.and_self]
theorem depth_ints : ∀ ns : List Int, PyData.depthAll (ns.map PyData.int) ≤ 0
  | [] => Nat.le_refl _
  | n :: ns => by
    have h := depth_ints ns
    simp only [List.map_cons, PyData.depthAll, PyData.depth]
    omega
theorem shaped_ints (ns : List Int) : SeqAt.shaped (.list (ns.map PyData.int)) = true :=
  shaped_of (by simp only [PyData.canLay0]; exact canLay_ints ns) (by simp only [PyData.depth]; have q := depth_ints ns; omega)
theorem imms_ints : ∀ ns : List Int, imms (ns.map PyData.int) = true
  | [] => rfl
  | n :: ns => by
    rw [List.map_cons]
    simp only [imms, imm, imms_ints ns, Bool.and_self]
theorem ld_ints {K : PySem.W.Frag} {H : Hp} {a : Addr} {ns : List Int} (h : H a = some (.lst (ns.map V.int))) : LD K H a (ns.map PyData.int) := ⟨_, h, dpa_ints ns⟩
theorem eqv_ints : ∀ l r : List Int, PyData.eqvAll (l.map PyData.int) (r.map PyData.int) = decide (l = r)
  | [], [] => rfl
  | [], _ :: _ => by simp [PyData.eqvAll]
  | _ :: _, [] => by simp [PyData.eqvAll]
  | p :: l, q :: r => by
    rw [List.map_cons, List.map_cons]
    simp only [PyData.eqvAll]
    have h := eqv_ints l r
    rw [h, Bool.eq_iff_iff]
    simp [PyData.eqv]
theorem ne_ints {K : PySem.W.Frag} {H : Hp} {Q : VK} {a b : Addr} {l r : List Int} (hx : SqL K H a (l.map V.int)) (hy : SqL K H b (r.map V.int))
    (h : Q (.bl (!decide (l = r))) H) : uNe K (.ref a) (.ref b) H Q := by
  refine i_neD (dp_ints hx) (dp_ints hy) (shaped_ints _) (shaped_ints _) ?_
  simp only [PyData.eqv]
  rw [eqv_ints]
  exact h
theorem ne_ints0 {K : PySem.W.Frag} {H : Hp} {Q : VK} {a b : Addr} {l : List Int} (hx : SqL K H a (l.map V.int)) (hy : H b = some (.lst []))
    (h : Q (.bl (!decide (l = []))) H) : uNe K (.ref a) (.ref b) H Q := ne_ints (r := []) hx (SqL.of hy) h
theorem eq_ints {K : PySem.W.Frag} {H : Hp} {Q : VK} {a b : Addr} {l r : List Int} (hx : SqL K H a (l.map V.int)) (hy : SqL K H b (r.map V.int))
    (h : Q (.bl (decide (l = r))) H) : uEq K (.ref a) (.ref b) H Q := by
  refine i_eqD (dp_ints hx) (dp_ints hy) (shaped_ints _) (shaped_ints _) ?_
  simp only [PyData.eqv]
  rw [eqv_ints]
  exact h
theorem eqv_d2T (p q : Int × Int) : PyData.eqv (d2 p) (d2 q) = decide (p = q) := by
  simp only [PyData.eqv, PyData.eqvAll, Bool.and_true]
  obtain ⟨a, b⟩ := p
  obtain ⟨c, d⟩ := q
  rw [Bool.eq_iff_iff]
  simp
theorem eqv_pairsT : ∀ l r : List (Int × Int), PyData.eqvAll (l.map d2) (r.map d2) = decide (l = r)
  | [], [] => rfl
  | [], _ :: _ => by simp [PyData.eqvAll]
  | _ :: _, [] => by simp [PyData.eqvAll]
  | p :: l, q :: r => by
    rw [List.map_cons, List.map_cons]
    simp only [PyData.eqvAll]
    have h := eqv_pairsT l r
    have h2 := eqv_d2T p q
    rw [h, h2, Bool.eq_iff_iff]
    simp

/-! ### while; three at once -/
theorem i_par3 {i j l : Nat} {tt : TA} {D : Ends} {σ : L2.St} {H : Hp}
    (h : tt σ H fun vs H1 => ∃ u v w, vs = [u, v, w] ∧ D.nx (((σ.set i (some u)).set j (some v)).set l (some w)) H1) : tPar3 i j l tt D σ H := h
theorem i_three {P : V → V → V → Prop} {x y z : V} (h : P x y z) : ∃ u v w, [x, y, z] = [u, v, w] ∧ P u v w := ⟨x, y, z, rfl, h⟩
theorem i_while {c : TT} {tb : TS} {D : Ends} {σ : L2.St} {H : Hp} (W : Nat → L2.St → Hp → Prop) (n : Nat) (h0 : W n σ H)
    (st : ∀ m σ H, W m σ H → c σ H fun b H1 => if b = true then ∃ N : L2.St → Hp → Prop, (∀ σ' H', N σ' H' → ∃ m', m' < m ∧ W m' σ' H') ∧ tb { D with nx := N, ct := N, bk := D.nx } σ H1 else D.nx σ H1) :
    tWhile c tb D σ H := ⟨W, ⟨n, h0⟩, st⟩
theorem i_loop {tb : TS} {D : Ends} {σ : L2.St} {H : Hp} {m : Nat} {W : Nat → L2.St → Hp → Prop}
    (h : tb { D with nx := fun σ' H' => ∃ m', m' < m ∧ W m' σ' H', ct := fun σ' H' => ∃ m', m' < m ∧ W m' σ' H', bk := D.nx } σ H) :
    ∃ N : L2.St → Hp → Prop, (∀ σ' H', N σ' H' → ∃ m', m' < m ∧ W m' σ' H') ∧ tb { D with nx := N, ct := N, bk := D.nx } σ H := ⟨_, fun _ _ h => h, h⟩

/-! ### for over a tuple -/
section
variable {K : PySem.W.Frag} {σ : L2.St} {H : Hp} {D : Ends} {tb : TS} {te : TE} {g : TG} {a : Addr} {xs : List V}
def ForT (K : PySem.W.Frag) (x : V) (g : TG) (tb : TS) (D : Ends) (σ : L2.St) (H : Hp) : Prop :=
  ∃ a, x = .ref a ∧ (∃ ys, SqT K H a ys) ∧ ∃ W : Nat → Nat → L2.St → Hp → Prop,
    (∃ m, W 0 m σ H) ∧ ∀ i m σ H, W i m σ H → ((Itt K a).stop i H ∧ D.nx σ H) ∨
      ((Itt K a).go i H ∧ ∃ Nx : L2.St → Hp → Prop,
        (∀ σ' H', Nx σ' H' → ∃ m', m' < m ∧ W (i + 1) m' σ' H') ∧
        ∀ x H', (Itt K a).yld i H x H' → g x σ H' fun σ2 H2 =>
          tb { D with nx := Nx, ct := Nx, bk := D.nx } σ2 H2)
theorem i_forT (h : te σ H fun x H1 => ForT K x g tb D σ H1) : tFor (iTup K te) g tb D σ H := h
theorem i_eachT (hs : SqT K H a xs) (Pv : Nat → L2.St → Hp → Prop) (h0 : Pv 0 σ H)
    (hl : ∀ i σ H, i ≤ xs.length → Pv i σ H → SqT K H a xs)
    (st : ∀ i x σ H, xs[i]? = some x → Pv i σ H → g x σ H fun σ2 H2 =>
      tb { D with nx := Pv (i + 1), ct := Pv (i + 1), bk := D.nx } σ2 H2)
    (hd : ∀ σ H, Pv xs.length σ H → D.nx σ H) : ForT K (.ref a) g tb D σ H :=
  ⟨a, rfl, ⟨_, hs⟩, for_tup Pv h0 hl st hd⟩
end

/-! ### dicts of numbers, each True; sorted -/
theorem u1 {n : Nat} (h : n + 64 < cLine) : n + 1 < cLine := Nat.lt_of_le_of_lt (Nat.add_le_add_left (by decide) n) h
theorem k_sorted {X : Cx} {K : PySem.W.Frag} (h : X.K = K) : CallR X (.builtin "sorted") (rSortedI K) := h ▸ cr_sortedI
def rListD : List V → Hp → VK → Prop := fun xs H Q => ∃ (a : Addr) (kvs : List (Key × V)), xs = [.ref a] ∧ Rd H a (.dK kvs) ∧
  ∀ p, H p = none → Q (.ref p) (upd H p (.lst (kvs.map fun kv => kV kv.1)))
theorem k_listD {X : Cx} (h : X.calm = true) : CallR X (.type "list") rListD := call_listD h
def kT (n : Int) : Key × V := (.inl n, .bl true)
def addK (ns : List Int) (n : Int) : List Int := if n ∈ ns then ns else ns ++ [n]
theorem put_kT (ns : List Int) (n : Int) : putK (ns.map kT) (.inl n) (.bl true) = (addK ns n).map kT := by
  unfold putK addK
  have e1 : ((ns.map kT).any fun kv => decide (kv.1 = Sum.inl n)) = decide (n ∈ ns) := by
    induction ns with
    | nil => rfl
    | cons m ns ih =>
      rw [List.map_cons, List.any_cons, ih]
      by_cases c : m = n
      · subst c
        simp [kT]
      · have c2 : ¬ n = m := fun z => c z.symm
        simp [kT, c, c2]
  rw [e1]
  by_cases c : n ∈ ns
  · rw [if_pos (decide_eq_true c), if_pos c, List.map_map]
    refine List.map_congr_left fun m _ => ?_
    show (if (kT m).1 = Sum.inl n then ((kT m).1, V.bl true) else kT m) = kT m
    split <;> rfl
  · rw [if_neg (by simp [c]), if_neg c, List.map_append]
    rfl
theorem addK_len (ns : List Int) (n : Int) : (addK ns n).length ≤ ns.length + 1 := by
  unfold addK
  split
  · omega
  · simp
theorem foldK_len : ∀ (ms ns : List Int), (ms.foldl addK ns).length ≤ ns.length + ms.length
  | [], ns => Nat.le_refl _
  | m :: ms, ns => by
    have h := foldK_len ms (addK ns m)
    have h2 := addK_len ns m
    rw [List.foldl_cons, List.length_cons]
    omega
theorem mem_addK {ns : List Int} {n x : Int} : x ∈ addK ns n ↔ x ∈ ns ∨ x = n := by
  unfold addK
  by_cases c : n ∈ ns
  · rw [if_pos c]
    refine ⟨.inl, fun h => h.elim id fun e => by rw [e]; exact c⟩
  · rw [if_neg c, List.mem_append, List.mem_singleton]
theorem mem_foldK {x : Int} : ∀ (ms ns : List Int), x ∈ ms.foldl addK ns ↔ x ∈ ns ∨ x ∈ ms
  | [], ns => by simp
  | m :: ms, ns => by
    rw [List.foldl_cons, mem_foldK ms, mem_addK, List.mem_cons]
    constructor
    · rintro ((h | h) | h)
      · exact .inl h
      · exact .inr (.inl h)
      · exact .inr (.inr h)
    · rintro (h | h | h)
      · exact .inl (.inl h)
      · exact .inl (.inr h)
      · exact .inr h
theorem addK_nd {ns : List Int} {n : Int} (h : ns.Nodup) : (addK ns n).Nodup := by
  unfold addK
  by_cases c : n ∈ ns
  · rw [if_pos c]
    exact h
  · rw [if_neg c]
    refine List.nodup_append.mpr ⟨h, by simp, fun a ha b hb e => ?_⟩
    rw [List.mem_singleton.mp hb] at e
    rw [e] at ha
    exact c ha
theorem foldK_nd : ∀ (ms ns : List Int), ns.Nodup → (ms.foldl addK ns).Nodup
  | [], _, h => h
  | m :: ms, ns, h => foldK_nd ms _ (addK_nd h)
section
variable {K : PySem.W.Frag} {H : Hp} {Q : VK} {a l b : Addr} {ns : List Int} {n : Int} {σ : L2.St} {xs ys : List V} {P : Hp → Prop}
theorem i_sorted (h : SqL K H a (ns.map V.int)) (q : ∀ (ns' : List Int) (p : Addr), ns'.Perm ns → ns'.Pairwise (· ≤ ·) → Fr H p → Q (.ref p) (upd H p (.lst (ns'.map V.int)))) :
    rSortedI K [.ref a] H Q := ⟨a, ns, rfl, h, fun ns' p h1 h2 h3 => q ns' p h1 h2 ⟨h3⟩⟩
theorem i_listD (h : H a = some (.dK (ns.map kT))) (q : New H fun p => Q (.ref p) (upd H p (.lst (ns.map V.int)))) : rListD [.ref a] H Q := by
  refine ⟨a, _, rfl, Rd.of h, fun p hp => ?_⟩
  have e : ((ns.map kT).map fun kv => kV kv.1) = ns.map V.int := by
    rw [List.map_map]
    rfl
  rw [e]
  exact q p hp
theorem i_setD (h : H a = some (.dK (ns.map kT))) (hl : ns.length ≤ 1000000) (q : P (upd H a (.dK ((addK ns n).map kT)))) :
    rSetD (.ref a) (.int n) (.bl true) H P := by
  refine ⟨a, _, rfl, DPut.k (k := .inl n) h (by rw [List.length_map]; exact small_sz hl), ?_⟩
  rw [put_kT]
  exact q
theorem i_dict0 (q : New H fun p => Q (.ref p) (upd (upd H p (.dK [])) p (.dK ([(0 : Int)].map kT)))) : tDisp [(tC (.int 0), tC (.bl true))] σ H Q :=
  fun p hp => ⟨upd_same, [kT 0], rfl, by decide, q p hp⟩
theorem i_extend (h1 : H l = some (.lst xs)) (h2 : H b = some (.lst ys)) (hz : xs.length + ys.length ≤ 1000000) (q : Q .non (upd H l (.lst (xs ++ ys)))) :
    rExtend (.ref l) [.ref b] H Q := ⟨l, b, xs, ys, rfl, rfl, h1, h2, Nat.le_trans hz (by decide), q⟩
end
section
variable {σ : L2.St} {H H1 : Hp} {Q : VK} {d : Addr} {g : TG} {tt : TT} {te td : TE} {vs : List Nat} {o : Obj} {ns : List Int}
def LcB (J : It) (g : TG) (tt : TT) (te : TE) (vs : List Nat) (σ : L2.St) (H1 : Hp) (Q : VK) : Prop := ∀ D, H1 D = none →
    ∃ W : Nat → Nat → Hp → Prop, (∃ m, W 0 m (upd H1 D (.lst []))) ∧ ∀ i m H, W i m H →
      (J.stop i H ∧ Q (.ref D) H) ∨ (J.go i H ∧ ∃ Nx : Hp → Prop,
        (∀ H', Nx H' → ∃ m', m' < m ∧ W (i + 1) m' H') ∧
        ∀ x H', J.yld i H x H' → g x (wipe σ vs) H' fun σ2 H2 => wipe σ2 vs = wipe σ vs ∧ tt σ2 H2 fun b H3 =>
          if b = true then te σ2 H3 fun y H4 => ∃ acc, H4 D = some (.lst acc) ∧ acc.length < sizeLine ∧
            Nx (upd H4 D (.lst (acc ++ [y]))) else Nx H3)
def LcK (x : V) (g : TG) (tt : TT) (te : TE) (vs : List Nat) (σ : L2.St) (H1 : Hp) (Q : VK) : Prop := ∃ d o, x = .ref d ∧
  ((∃ kvs, H1 d = some (.frz o (.dK kvs)) ∧ LcB (Itk d o kvs) g tt te vs σ H1 Q) ∨ ∃ kvs, H1 d = some (.frz o (.dT kvs)) ∧ LcB (Itkt d o kvs) g tt te vs σ H1 Q)
theorem i_lcK (h : td σ H fun x H1 => LcK x g tt te vs σ H1 Q) : tLc (iKeys td) g tt te vs σ H Q := h
theorem i_keyz (hd : H d = some (.frz o (.dK (ns.map kT)))) (Pv : Addr → Nat → Hp → Prop)
    (h0 : ∀ R, Fr H R → Pv R 0 (upd H R (.lst [])))
    (hl : ∀ R i H', Fr H R → Pv R i H' → H' d = some (.frz o (.dK (ns.map kT))))
    (st : ∀ R i n H', Fr H R → ns[i]? = some n → Pv R i H' → g (.int n) (wipe σ vs) H' fun σ2 H2 =>
      wipe σ2 vs = wipe σ vs ∧ tt σ2 H2 fun b H3 => if b = true then te σ2 H3 fun y H4 =>
        ∃ acc, H4 R = some (.lst acc) ∧ acc.length < sizeLine ∧ Pv R (i + 1) (upd H4 R (.lst (acc ++ [y])))
        else Pv R (i + 1) H3)
    (hdn : ∀ R H', Fr H R → Pv R ns.length H' → Q (.ref R) H') : LcK (.ref d) g tt te vs σ H Q := by
  refine ⟨d, o, rfl, .inl ⟨_, hd, fun R hR => ⟨fun i m H' => m = ns.length - i ∧ i ≤ ns.length ∧ Pv R i H', ⟨_, rfl, Nat.zero_le _, h0 R ⟨hR⟩⟩, ?_⟩⟩⟩
  rintro i m H' ⟨rfl, hi, z⟩
  have q := hl R i H' ⟨hR⟩ z
  by_cases c : i < ns.length
  · refine .inr ⟨⟨q, by rw [List.length_map]; exact c⟩, Pv R (i + 1), fun H2 w => ⟨_, by omega, rfl, c, w⟩, ?_⟩
    rintro x H2 ⟨rfl, k, v, e, rfl⟩
    obtain ⟨n, hn, e2⟩ := map_get e
    cases e2
    exact st R i n _ ⟨hR⟩ hn z
  · have e : i = ns.length := by omega
    exact .inl ⟨⟨q, by rw [List.length_map]; omega⟩, hdn R H' ⟨hR⟩ (by rw [← e]; exact z)⟩
end

/-! ### dicts whose keys are numbers, whatever they hold -/
theorem k_fldaug {X : Cx} {K : PySem.W.Frag} {op : Operator} {rd : V → V → Hp → VK → Prop} {o value : Expr} {f : Str} {pos tpos : Pos} {ta tv : TE} (h : X.K = K) (ha : PE X o ta) (hv : PE X value tv) (hop : InOp X op rd) :
    PS X (.AugAssign (.Attribute o f tpos) op value pos) (sFldAug K ta tv rd f) := h ▸ ps_fldaug ha hv hop
theorem k_sortedP {X : Cx} {K : PySem.W.Frag} (h : X.K = K) : CallR X (.builtin "sorted") (rSortedPO K) := h ▸ cr_sortedPO
section
variable {K : PySem.W.Frag} {σ : L2.St} {H H1 : Hp} {Q : VK} {D : Ends} {a d : Addr} {kvs : List (Key × V)} {n : Int} {v : V} {td ty tv : TE} {P : Hp → Prop}
def FldA (K : PySem.W.Frag) (x : V) (tv : TE) (rd : V → V → Hp → VK → Prop) (f : Str) (D : Ends) (σ : L2.St) (H1 : Hp) : Prop :=
  ∃ a C dx fs v, x = .ref a ∧ H1 a = some (.ins C dx fs) ∧ Cls K C ∧ NoAttr K C f ∧ fs.lookup f = some v ∧
  tv σ H1 fun y H2 => rd v y H2 fun z H3 => ∃ dx' fs', H3 a = some (.ins C dx' fs') ∧ fs'.length < 1000 ∧ D.nx σ (upd H3 a (.ins C dx' (putF f z fs')))
theorem i_fldaug {rd : V → V → Hp → VK → Prop} {f : Str} (h : td σ H fun x H1 => FldA K x tv rd f D σ H1) : sFldAug K td tv rd f D σ H := h
theorem i_fldaR {rd : V → V → Hp → VK → Prop} {f : Str} {C dx : Addr} {fs : List (Str × V)} {v : V} (ho : H a = some (.ins C dx fs)) (c : Cls K C) (nn : NoAttr K C f) (hl : fs.lookup f = some v)
    (h : tv σ H fun y H2 => rd v y H2 fun z H3 => ∃ dx' fs', H3 a = some (.ins C dx' fs') ∧ fs'.length < 1000 ∧ D.nx σ (upd H3 a (.ins C dx' (putF f z fs')))) : FldA K (.ref a) tv rd f D σ H := ⟨a, C, dx, fs, v, rfl, ho, c, nn, hl, h⟩
def DG (x y : V) (H : Hp) (Q : VK) : Prop := ∃ a v, x = .ref a ∧ DGet H a y (some v) ∧ Q v H
theorem i_dget (h : td σ H fun x H1 => ty σ H1 fun y H2 => DG x y H2 Q) : tDGet td ty σ H Q := h
theorem i_dg (hd : H a = some (.dK kvs)) (hv : valV kvs (.inl n) = some v) (q : Q v H) : DG (.ref a) (.int n) H Q :=
  ⟨a, v, rfl, by
    have e := DGet.k (k := .inl n) hd
    rw [hv] at e
    exact e, q⟩
def DIn (y x : V) (H : Hp) (Q : VK) : Prop := ∃ a o, x = .ref a ∧ DGet H a y o ∧ Q (.bl o.isSome) H
def DNin (y x : V) (H : Hp) (Q : VK) : Prop := ∃ a o, x = .ref a ∧ DGet H a y o ∧ Q (.bl (!o.isSome)) H
theorem i_din (h : ty σ H fun y H1 => td σ H1 fun x H2 => DIn y x H2 Q) : tDIn ty td σ H Q := h
theorem i_dnin (h : ty σ H fun y H1 => td σ H1 fun x H2 => DNin y x H2 Q) : tDNotIn ty td σ H Q := h
theorem i_di (hd : H a = some (.dK kvs)) (q : Q (.bl (valV kvs (.inl n)).isSome) H) : DIn (.int n) (.ref a) H Q := ⟨a, _, rfl, DGet.k (k := .inl n) hd, q⟩
theorem i_dni (hd : H a = some (.dK kvs)) (q : Q (.bl (!(valV kvs (.inl n)).isSome)) H) : DNin (.int n) (.ref a) H Q := ⟨a, _, rfl, DGet.k (k := .inl n) hd, q⟩
theorem i_setK (hd : H a = some (.dK kvs)) (hl : kvs.length ≤ 1000000) (q : P (upd H a (.dK (putK kvs (.inl n) v)))) : rSetD (.ref a) (.int n) v H P :=
  ⟨a, _, rfl, DPut.k (k := .inl n) hd (small_sz hl), q⟩
def DP1 (x : V) (ty : TE) (σ : L2.St) (H1 : Hp) (Q : VK) : Prop := ∃ a, x = .ref a ∧ IsD H1 a ∧ ty σ H1 fun y H2 => ∃ kvs k v, H2 a = some (.dK kvs) ∧ y = kV k ∧ valV kvs k = some v ∧ Q v (upd H2 a (.dK (dropK kvs k)))
def DP2 (a : Addr) (y : V) (H2 : Hp) (Q : VK) : Prop := ∃ kvs k v, H2 a = some (.dK kvs) ∧ y = kV k ∧ valV kvs k = some v ∧ Q v (upd H2 a (.dK (dropK kvs k)))
theorem i_dpop (h : td σ H fun x H1 => DP1 x ty σ H1 Q) : tDPop1 td ty σ H Q := h
theorem i_dp1 (hd : H a = some (.dK kvs)) (h : ty σ H fun y H2 => DP2 a y H2 Q) : DP1 (.ref a) ty σ H Q := ⟨a, rfl, .inl ⟨_, Rd.of hd⟩, h⟩
theorem i_dp2 (hd : H a = some (.dK kvs)) (hv : valV kvs (.inl n) = some v) (q : Q v (upd H a (.dK (dropK kvs (.inl n))))) : DP2 a (.int n) H Q := ⟨_, .inl n, v, hd, rfl, hv, q⟩
theorem i_lockE {t : TE} (h : H d = some (.dK kvs)) (k : ∀ od, t σ (upd H d (.frz od (.dK kvs))) fun v H' => H' d = some (.frz od (.dK kvs)) ∧ Q v (upd H' d (.dK kvs))) : tLockE t σ H Q := ⟨d, _, h, trivial, k⟩
theorem i_remove {l : Addr} {ns : List Int} {k : Int} (hl : H l = some (.lst (ns.map V.int))) (hk : k ∈ ns) (q : Q .non (upd H l (.lst ((ns.erase k).map V.int)))) : rRemI (.ref l) [.int k] H Q := by
  obtain ⟨j, j1, j2, j3, j4⟩ := first_at hk
  refine ⟨l, ns, k, j, rfl, rfl, hl, j2, j3, ?_⟩
  rw [j4]
  exact q
theorem i_popV {l : Addr} {xs : List V} {y : V} (hl : H l = some (.lst (xs ++ [y]))) (q : Q y (upd H l (.lst xs))) : rPop (.ref l) [] H Q := by
  refine ⟨l, _, y, rfl, rfl, hl, ?_, ?_⟩
  · rw [List.length_append, List.length_singleton, Nat.add_sub_cancel]
    exact List.getElem?_concat_length
  · rw [List.dropLast_concat]
    exact q
theorem flat_ints (ns : List Int) : (ns.map V.int).all flatV = true := by
  rw [List.all_eq_true]
  intro v hv
  obtain ⟨n, _, rfl⟩ := List.mem_map.mp hv
  rfl
theorem inV_ints {k : Int} : ∀ ns : List Int, inV (.int k) (ns.map V.int) = decide (k ∈ ns)
  | [] => rfl
  | n :: ns => by
    have ih := inV_ints (k := k) ns
    unfold inV at ih ⊢
    rw [List.map_cons, List.any_cons, ih]
    by_cases c : n = k
    · subst c
      simp [eqV]
    · have c2 : ¬ k = n := fun z => c z.symm
      simp [eqV, c, c2]
theorem i_inI {l : Addr} {ns : List Int} {k : Int} (hl : SqL K H l (ns.map V.int)) (q : Q (.bl (decide (k ∈ ns))) H) : rIn K false (.int k) (.ref l) H Q := by
  refine ⟨l, _, rfl, .inl hl, rfl, flat_ints ns, ?_⟩
  rw [inV_ints]
  exact q
theorem i_ninI {l : Addr} {ns : List Int} {k : Int} (hl : SqL K H l (ns.map V.int)) (q : Q (.bl (!decide (k ∈ ns))) H) : rIn K true (.int k) (.ref l) H Q := by
  refine ⟨l, _, rfl, .inl hl, rfl, flat_ints ns, ?_⟩
  rw [inV_ints]
  exact q
end
theorem kp_unl {H3 H4 : Hp} {d : Addr} {u v : HO} (h : H3 d = some u) (nu : ¬ Fix u) (k : Kp [] (upd H3 d v) H4) : Kp [] H3 (upd H4 d u) := by
  refine ⟨fun a o e n => ?_, fun a o e f => ?_, fun a o e => ?_⟩
  · by_cases z : a = d
    · subst z
      rw [h] at e
      cases e
      exact upd_same
    · rw [upd_ne z]
      exact k.at_ a o (by rw [upd_ne z]; exact e) not_nil
  · have z : a ≠ d := by
      intro z
      subst z
      rw [h] at e
      cases e
      exact nu f
    rw [upd_ne z]
    exact k.at_ a o (by rw [upd_ne z]; exact e) not_nil
  · by_cases z : a = d
    · exact ⟨u, by rw [z]; exact upd_same⟩
    · rw [upd_ne z]
      exact ⟨o, k.at_ a o (by rw [upd_ne z]; exact e) not_nil⟩
section
variable {K : PySem.W.Frag} {σ : L2.St} {H H1 : Hp} {Q : VK} {d : Addr} {g g1 : TG} {tt tt1 : TT} {te td te1 : TE} {vs vs1 : List Nat} {o : Obj} {kvs : List (Key × V)}
/-- a comprehension over the keys -/
theorem i_keyG (hd : H d = some (.frz o (.dK kvs))) (Pv : Addr → Nat → Hp → Prop)
    (h0 : ∀ R, Fr H R → Pv R 0 (upd H R (.lst [])))
    (hl : ∀ R i H', Fr H R → Pv R i H' → H' d = some (.frz o (.dK kvs)))
    (st : ∀ R i k v H', Fr H R → kvs[i]? = some (k, v) → Pv R i H' → g (kV k) (wipe σ vs) H' fun σ2 H2 =>
      wipe σ2 vs = wipe σ vs ∧ tt σ2 H2 fun b H3 => if b = true then te σ2 H3 fun y H4 =>
        ∃ acc, H4 R = some (.lst acc) ∧ acc.length < sizeLine ∧ Pv R (i + 1) (upd H4 R (.lst (acc ++ [y])))
        else Pv R (i + 1) H3)
    (hdn : ∀ R H', Fr H R → Pv R kvs.length H' → Q (.ref R) H') : LcK (.ref d) g tt te vs σ H Q := by
  refine ⟨d, o, rfl, .inl ⟨_, hd, fun R hR => ⟨fun i m H' => m = kvs.length - i ∧ i ≤ kvs.length ∧ Pv R i H', ⟨_, rfl, Nat.zero_le _, h0 R ⟨hR⟩⟩, ?_⟩⟩⟩
  rintro i m H' ⟨rfl, hi, z⟩
  have q := hl R i H' ⟨hR⟩ z
  by_cases c : i < kvs.length
  · refine .inr ⟨⟨q, c⟩, Pv R (i + 1), fun H2 w => ⟨_, by omega, rfl, c, w⟩, ?_⟩
    rintro x H2 ⟨rfl, k, v, e, rfl⟩
    exact st R i k v _ ⟨hR⟩ e z
  · have e : i = kvs.length := by omega
    exact .inl ⟨⟨q, by omega⟩, hdn R H' ⟨hR⟩ (by rw [← e]; exact z)⟩
/-- the walk of the second clause of a comprehension -/
def In2 (J1 : It) (g1 : TG) (tt1 : TT) (te : TE) (vs1 : List Nat) (σ2 : L2.St) (D : Addr) (Nx : Hp → Prop) (H4 : Hp) : Prop := ∃ W1 : Nat → Nat → Hp → Prop, (∃ m, W1 0 m H4) ∧ ∀ j k H, W1 j k H →
      (J1.stop j H ∧ Nx H) ∨ (J1.go j H ∧ ∃ Nx1 : Hp → Prop, (∀ H', Nx1 H' → ∃ k', k' < k ∧ W1 (j + 1) k' H') ∧ ∀ x H', J1.yld j H x H' → g1 x (wipe σ2 vs1) H' fun σ3 H5 => wipe σ3 vs1 = wipe σ2 vs1 ∧ tt1 σ3 H5 fun b H6 =>
        if b = true then te σ3 H6 fun y H7 => ∃ acc, H7 D = some (.lst acc) ∧ acc.length < sizeLine ∧ Nx1 (upd H7 D (.lst (acc ++ [y]))) else Nx1 H6)
def Lc2I (x : V) (g : TG) (tt : TT) (wi1 : TI) (g1 : TG) (tt1 : TT) (te : TE) (vs vs1 : List Nat) (σ : L2.St) (H1 : Hp) (Q : VK) : Prop := ∃ d o kvs, x = .ref d ∧ H1 d = some (.frz o (.dK kvs)) ∧
  ∀ D, H1 D = none → ∃ W : Nat → Nat → Hp → Prop, (∃ m, W 0 m (upd H1 D (.lst []))) ∧ ∀ i m H, W i m H →
  ((Iti d o kvs).stop i H ∧ Q (.ref D) H) ∨ ((Iti d o kvs).go i H ∧ ∃ Nx : Hp → Prop, (∀ H', Nx H' → ∃ m', m' < m ∧ W (i + 1) m' H') ∧ ∀ x H', (Iti d o kvs).yld i H x H' → g x (wipe σ vs) H' fun σ2 H2 => wipe σ2 vs = wipe σ vs ∧ tt σ2 H2 fun b H3 =>
    if b = true then wi1 σ2 H3 fun J1 H4 => In2 J1 g1 tt1 te vs1 σ2 D Nx H4 else Nx H3)
theorem i_lc2I {wi1 : TI} (h : td σ H fun x H1 => Lc2I x g tt wi1 g1 tt1 te vs vs1 σ H1 Q) : tLc2 (iItems td) g tt wi1 g1 tt1 te vs vs1 σ H Q := h
theorem i_itemG {wi1 : TI} (hd : H d = some (.frz o (.dK kvs))) (Pv : Addr → Nat → Hp → Prop)
    (h0 : ∀ R, Fr H R → Pv R 0 (upd H R (.lst [])))
    (hl : ∀ R i H', Fr H R → Pv R i H' → H' d = some (.frz o (.dK kvs)))
    (st : ∀ R i k v T H', Fr H R → kvs[i]? = some (k, v) → Pv R i H' → Fr H' T → g (.ref T) (wipe σ vs) (upd H' T (.tup [kV k, v])) fun σ2 H2 =>
      wipe σ2 vs = wipe σ vs ∧ tt σ2 H2 fun b H3 => if b = true then wi1 σ2 H3 fun J1 H4 => In2 J1 g1 tt1 te vs1 σ2 R (Pv R (i + 1)) H4 else Pv R (i + 1) H3)
    (hdn : ∀ R H', Fr H R → Pv R kvs.length H' → Q (.ref R) H') : Lc2I (.ref d) g tt wi1 g1 tt1 te vs vs1 σ H Q := by
  refine ⟨d, o, _, rfl, hd, fun R hR => ⟨fun i m H' => m = kvs.length - i ∧ i ≤ kvs.length ∧ Pv R i H', ⟨_, rfl, Nat.zero_le _, h0 R ⟨hR⟩⟩, ?_⟩⟩
  rintro i m H' ⟨rfl, hi, z⟩
  have q := hl R i H' ⟨hR⟩ z
  by_cases c : i < kvs.length
  · refine .inr ⟨⟨q, c⟩, Pv R (i + 1), fun H2 w => ⟨_, by omega, rfl, c, w⟩, ?_⟩
    rintro x H2 ⟨T, k, v, e, rfl, hT, rfl⟩
    exact st R i k v T _ ⟨hR⟩ e z ⟨hT⟩
  · have e : i = kvs.length := by omega
    exact .inl ⟨⟨q, by omega⟩, hdn R H' ⟨hR⟩ (by rw [← e]; exact z)⟩
theorem i_in2L {R : Addr} {Nx : Hp → Prop} {σ2 : L2.St} (h : te1 σ2 H fun x H1 => ∃ a, x = .ref a ∧ (∃ xs, SqL K H1 a xs) ∧ In2 (Itl K a) g1 tt1 te vs1 σ2 R Nx H1) :
    iList K te1 σ2 H fun J1 H4 => In2 J1 g1 tt1 te vs1 σ2 R Nx H4 := h
theorem i_inL {a R : Addr} {xs : List V} {Nx : Hp → Prop} {σ2 : L2.St} (hs : SqL K H a xs) (P1 : Nat → Hp → Prop) (h0 : P1 0 H)
    (hl : ∀ j H', j ≤ xs.length → P1 j H' → SqL K H' a xs)
    (st : ∀ j x H', xs[j]? = some x → P1 j H' → g1 x (wipe σ2 vs1) H' fun σ3 H5 => wipe σ3 vs1 = wipe σ2 vs1 ∧ tt1 σ3 H5 fun b H6 =>
        if b = true then te σ3 H6 fun y H7 => ∃ acc, H7 R = some (.lst acc) ∧ acc.length < sizeLine ∧ P1 (j + 1) (upd H7 R (.lst (acc ++ [y]))) else P1 (j + 1) H6)
    (hdn : ∀ H', P1 xs.length H' → Nx H') : ∃ a', V.ref a = .ref a' ∧ (∃ xs, SqL K H a' xs) ∧ In2 (Itl K a') g1 tt1 te vs1 σ2 R Nx H := by
  refine ⟨a, rfl, ⟨_, hs⟩, fun i m H' => m = xs.length - i ∧ i ≤ xs.length ∧ P1 i H', ⟨_, rfl, Nat.zero_le _, h0⟩, ?_⟩
  rintro i m H' ⟨rfl, hi, z⟩
  have q := hl i H' hi z
  by_cases c : i < xs.length
  · refine .inr ⟨⟨xs, xs[i], q, List.getElem?_eq_getElem c⟩, P1 (i + 1), fun H2 w => ⟨_, by omega, rfl, c, w⟩, fun x H2 y => ?_⟩
    obtain ⟨e, y⟩ := y
    subst e
    exact st i x _ (y xs q) z
  · have e : i = xs.length := by omega
    subst e
    exact .inl ⟨⟨xs, q, Nat.le_refl _⟩, hdn _ z⟩
/-- a dict comprehension over the keys -/
def DcB (J : It) (g : TG) (tt : TT) (tk tv : TE) (vs : List Nat) (σ : L2.St) (H1 : Hp) (Q : VK) : Prop := ∀ D, H1 D = none → ∃ W : Nat → Nat → Hp → Prop, (∃ m, W 0 m (upd H1 D (.dK []))) ∧ ∀ i m H, W i m H →
  (J.stop i H ∧ Q (.ref D) H) ∨ (J.go i H ∧ ∃ Nx : Hp → Prop, (∀ H', Nx H' → ∃ m', m' < m ∧ W (i + 1) m' H') ∧ ∀ x H', J.yld i H x H' → g x (wipe σ vs) H' fun σ2 H2 => wipe σ2 vs = wipe σ vs ∧ tt σ2 H2 fun b H3 =>
    if b = true then tk σ2 H3 fun y H4 => tv σ2 H4 fun z H5 => ∃ kvs k, y = kV k ∧ H5 D = some (.dK kvs) ∧ kvs.length < sizeLine ∧ Nx (upd H5 D (.dK (putK kvs k z))) else Nx H3)
def DcK (x : V) (g : TG) (tt : TT) (tk tv : TE) (vs : List Nat) (σ : L2.St) (H1 : Hp) (Q : VK) : Prop := ∃ d o, x = .ref d ∧
  ((∃ kvs, H1 d = some (.frz o (.dK kvs)) ∧ DcB (Itk d o kvs) g tt tk tv vs σ H1 Q) ∨ ∃ kvs, H1 d = some (.frz o (.dT kvs)) ∧ DcB (Itkt d o kvs) g tt tk tv vs σ H1 Q)
theorem i_dcK {tk tv : TE} (h : td σ H fun x H1 => DcK x g tt tk tv vs σ H1 Q) : tDc (iKeys td) g tt tk tv vs σ H Q := h
theorem i_dkeyG {tk tv : TE} (hd : H d = some (.frz o (.dK kvs))) (Pv : Addr → Nat → Hp → Prop)
    (h0 : ∀ R, Fr H R → Pv R 0 (upd H R (.dK [])))
    (hl : ∀ R i H', Fr H R → Pv R i H' → H' d = some (.frz o (.dK kvs)))
    (st : ∀ R i k v H', Fr H R → kvs[i]? = some (k, v) → Pv R i H' → g (kV k) (wipe σ vs) H' fun σ2 H2 =>
      wipe σ2 vs = wipe σ vs ∧ tt σ2 H2 fun b H3 => if b = true then tk σ2 H3 fun y H4 => tv σ2 H4 fun z H5 => ∃ kvs k, y = kV k ∧ H5 R = some (.dK kvs) ∧ kvs.length < sizeLine ∧ Pv R (i + 1) (upd H5 R (.dK (putK kvs k z))) else Pv R (i + 1) H3)
    (hdn : ∀ R H', Fr H R → Pv R kvs.length H' → Q (.ref R) H') : DcK (.ref d) g tt tk tv vs σ H Q := by
  refine ⟨d, o, rfl, .inl ⟨_, hd, fun R hR => ⟨fun i m H' => m = kvs.length - i ∧ i ≤ kvs.length ∧ Pv R i H', ⟨_, rfl, Nat.zero_le _, h0 R ⟨hR⟩⟩, ?_⟩⟩⟩
  rintro i m H' ⟨rfl, hi, z⟩
  have q := hl R i H' ⟨hR⟩ z
  by_cases c : i < kvs.length
  · refine .inr ⟨⟨q, c⟩, Pv R (i + 1), fun H2 w => ⟨_, by omega, rfl, c, w⟩, ?_⟩
    rintro x H2 ⟨rfl, k, v, e, rfl⟩
    exact st R i k v _ ⟨hR⟩ e z
  · have e : i = kvs.length := by omega
    exact .inl ⟨⟨q, by omega⟩, hdn R H' ⟨hR⟩ (by rw [← e]; exact z)⟩
end
--%%M
local macro_rules | `(tactic| walk_at "g_own") => `(tactic| first
  | (with_reducible refine i_fldaug ?_)
  | ((with_reducible apply i_fldaR ?h ?c ?n ?g ?_); (case h => walk_at "g_hp"); (case c => with_reducible assumption); (case n => with_reducible assumption); (case g => exact rfl))
  | (with_reducible refine i_dget ?_)
  | (with_reducible refine i_din ?_)
  | (with_reducible refine i_dnin ?_)
  | (with_reducible refine i_dpop ?_)
  | ((with_reducible apply i_di ?h ?_); (case h => walk_at "g_hp"))
  | ((with_reducible apply i_dni ?h ?_); (case h => walk_at "g_hp"))
  | ((with_reducible apply i_dp1 ?h ?_); (case h => walk_at "g_hp"))
  | (with_reducible refine i_lc2I ?_)
  | (with_reducible refine i_lcK ?_)
  | (with_reducible refine i_dcK ?_)
  | ((with_reducible apply i_inI ?h ?_); (case h => walk_at "g_sq"))
  | ((with_reducible apply i_ninI ?h ?_); (case h => walk_at "g_sq")))
--%%E

/-! ### lists of pairs, sorted -/
def PrsAt (H : Hp) : List V → List (Int × Int) → Prop
  | [], [] => True
  | x :: xs, q :: ps => (∃ t, x = .ref t ∧ H t = some (.tup [.int q.1, .int q.2])) ∧ PrsAt H xs ps
  | _, _ => False
theorem PrsAt.len {H : Hp} : ∀ {xs : List V} {ps : List (Int × Int)}, PrsAt H xs ps → xs.length = ps.length
  | [], [], _ => rfl
  | _ :: _, _ :: _, h => by rw [List.length_cons, List.length_cons, PrsAt.len h.2]
  | [], _ :: _, h => h.elim
  | _ :: _, [], h => h.elim
theorem PrsAt.kp {H H' : Hp} {ws : List Addr} (k : Kp ws H H') : ∀ {xs : List V} {ps : List (Int × Int)}, PrsAt H xs ps → PrsAt H' xs ps
  | [], [], _ => trivial
  | _ :: _, _ :: _, ⟨⟨t, e, h⟩, r⟩ => ⟨⟨t, e, k.fix _ _ h trivial⟩, PrsAt.kp k r⟩
  | [], _ :: _, h => h.elim
  | _ :: _, [], h => h.elim
theorem PrsAt.snoc {H : Hp} {t : Addr} {q : Int × Int} (e : H t = some (.tup [.int q.1, .int q.2])) : ∀ {xs : List V} {ps : List (Int × Int)}, PrsAt H xs ps → PrsAt H (xs ++ [.ref t]) (ps ++ [q])
  | [], [], _ => ⟨⟨t, rfl, e⟩, trivial⟩
  | _ :: _, _ :: _, ⟨a, r⟩ => ⟨a, PrsAt.snoc e r⟩
  | [], _ :: _, h => h.elim
  | _ :: _, [], h => h.elim
theorem PrsAt.dpa {K : PySem.W.Frag} {H : Hp} : ∀ {xs : List V} {ps : List (Int × Int)}, PrsAt H xs ps → DpAll K H xs (ps.map d2)
  | [], [], _ => .nil
  | _ :: _, q :: _, ⟨⟨t, e, h⟩, r⟩ => by
    subst e
    exact .cons (dp_mk2 (.inl (Rd.of h))) (PrsAt.dpa r)
  | [], _ :: _, h => h.elim
  | _ :: _, [], h => h.elim
def kOfO : Option HO → Int × Int
  | some (.tup [.int a, .int b]) => (a, b)
  | _ => (0, 0)
def kOf (H : Hp) (x : V) : Int × Int :=
  match x with
  | .ref t => kOfO (H t)
  | _ => (0, 0)
theorem kOf_at {H : Hp} {t : Addr} {q : Int × Int} (h : H t = some (.tup [.int q.1, .int q.2])) : kOf H (.ref t) = q := by
  show kOfO (H t) = q
  rw [h]
  rfl
theorem PrsAt.key {H : Hp} : ∀ {xs : List V} {ps : List (Int × Int)}, PrsAt H xs ps → ∀ x ∈ xs, ∃ t, x = .ref t ∧ H t = some (.tup [.int (kOf H x).1, .int (kOf H x).2])
  | [], [], _, x, hx => by cases hx
  | y :: _, q :: _, ⟨⟨t, e, h⟩, r⟩, x, hx => by
    rcases List.mem_cons.mp hx with z | z
    · subst z
      subst e
      refine ⟨t, rfl, ?_⟩
      rw [kOf_at h]
      exact h
    · exact PrsAt.key r x z
  | [], _ :: _, h, _, _ => h.elim
  | _ :: _, [], h, _, _ => h.elim
theorem PrsAt.map {H : Hp} : ∀ {xs : List V} {ps : List (Int × Int)}, PrsAt H xs ps → xs.map (kOf H) = ps
  | [], [], _ => rfl
  | y :: _, q :: _, ⟨⟨t, e, h⟩, r⟩ => by
    subst e
    rw [List.map_cons, PrsAt.map r, kOf_at h]
  | [], _ :: _, h => h.elim
  | _ :: _, [], h => h.elim
theorem PrsAt.of {H : Hp} : ∀ {xs : List V}, (∀ x ∈ xs, ∃ t, x = .ref t ∧ H t = some (.tup [.int (kOf H x).1, .int (kOf H x).2])) → PrsAt H xs (xs.map (kOf H))
  | [], _ => trivial
  | x :: xs, h => ⟨h x List.mem_cons_self, PrsAt.of fun y hy => h y (List.mem_cons_of_mem _ hy)⟩
def ltQ (p q : Int × Int) : Prop := p.1 < q.1 ∨ (p.1 = q.1 ∧ p.2 < q.2)
/-- sorted of a list of pairs no two of which are alike -/
theorem i_sortedP {K : PySem.W.Frag} {H : Hp} {Q : VK} {a : Addr} {xs : List V} {ps : List (Int × Int)} (h : H a = some (.lst xs)) (r : PrsAt H xs ps) (nd : ps.Nodup)
    (q : ∀ (rs : List (Int × Int)) (R : Addr) (H' : Hp), Fr H R → Kp [] H H' → LD K H' R (rs.map d2) → rs.Perm ps → rs.Pairwise ltQ → Q (.ref R) H') : rSortedPO K [.ref a] H Q := by
  refine ⟨a, xs, kOf H, rfl, SqL.of h, r.key, fun ys p s1 s2 hp => ?_⟩
  have pm := s2.perm
  have key : ∀ x ∈ ys, ∃ t, x = .ref t ∧ H t = some (.tup [.int (kOf H x).1, .int (kOf H x).2]) := fun x hx => r.key x (pm.mem_iff.mp hx)
  have pm2 : (ys.map (kOf H)).Perm ps := by
    have e := pm.map (kOf H)
    rw [r.map] at e
    exact e
  have k : Kp [] H (upd H p (.lst ys)) := Kp.new ⟨hp⟩
  refine q (ys.map (kOf H)) p _ ⟨hp⟩ k ⟨ys, upd_same, (PrsAt.kp k (PrsAt.of key)).dpa⟩ pm2 ?_
  have nd2 : (ys.map (kOf H)).Nodup := pm2.nodup_iff.mpr nd
  have s3 : (ys.map (kOf H)).Pairwise fun p q => SrtO.lexB q p = false := List.pairwise_map.mpr s1
  refine (s3.and nd2).imp fun {p q} z => ?_
  have z1 := SrtO.lexB_no.mp z.1
  have z2 : p ≠ q := z.2
  unfold ltQ
  by_cases c : p.1 = q.1
  · refine .inr ⟨c, ?_⟩
    by_cases c2 : p.2 = q.2
    · exact absurd (Prod.ext c c2) z2
    · omega
  · omega
theorem pw_uniq {α : Type} {lt : α → α → Prop} (irr : ∀ a, ¬ lt a a) (asym : ∀ a b, lt a b → ¬ lt b a) : ∀ {l m : List α}, l.Pairwise lt → m.Pairwise lt → (∀ x, x ∈ l ↔ x ∈ m) → l = m
  | [], [], _, _, _ => rfl
  | [], b :: m, _, _, h => absurd ((h b).mpr List.mem_cons_self) (by simp)
  | a :: l, [], _, _, h => absurd ((h a).mp List.mem_cons_self) (by simp)
  | a :: l, b :: m, h1, h2, h => by
    rw [List.pairwise_cons] at h1 h2
    have e : a = b := by
      rcases List.mem_cons.mp ((h a).mp List.mem_cons_self) with e | e
      · exact e
      rcases List.mem_cons.mp ((h b).mpr List.mem_cons_self) with e2 | e2
      · exact e2.symm
      exact absurd (h2.1 a e) (asym _ _ (h1.1 b e2))
    subst e
    congr 1
    refine pw_uniq irr asym h1.2 h2.2 fun x => ?_
    constructor
    · intro hx
      rcases List.mem_cons.mp ((h x).mp (List.mem_cons_of_mem _ hx)) with e | e
      · subst e
        exact absurd (h1.1 _ hx) (irr _)
      · exact e
    · intro hx
      rcases List.mem_cons.mp ((h x).mpr (List.mem_cons_of_mem _ hx)) with e | e
      · subst e
        exact absurd (h2.1 _ hx) (irr _)
      · exact e
theorem ltQ_uniq {l m : List (Int × Int)} (h1 : l.Pairwise ltQ) (h2 : m.Pairwise ltQ) (h : ∀ x, x ∈ l ↔ x ∈ m) : l = m :=
  pw_uniq (fun a z => by unfold ltQ at z; omega) (fun a b z y => by unfold ltQ at z y; omega) h1 h2 h
theorem lt_uniq {l m : List Int} (h1 : l.Pairwise (· < ·)) (h2 : m.Pairwise (· < ·)) (h : ∀ x, x ∈ l ↔ x ∈ m) : l = m :=
  pw_uniq (fun a z => Int.lt_irrefl _ z) (fun a b z y => absurd (Int.lt_trans z y) (Int.lt_irrefl _)) h1 h2 h
theorem strict_of {l m : List Int} (p : l.Perm m) (nd : m.Nodup) (h : l.Pairwise (· ≤ ·)) : l.Pairwise (· < ·) := by
  have nd2 : l.Nodup := p.nodup_iff.mpr nd
  refine (h.and nd2).imp fun {a b} z => ?_
  have z2 : a ≠ b := z.2
  omega

/-! ### spread, ways -/
section
variable {D : Int → Int → Int} {ever : Int} {liv ks : List Int} {nb : Int → List Int} {goal here u : Int} {vis : List (Int × Int)} {wait : List Int}
/-- what is known of those met: q.2 stands ahead of q.1 on the way to the goal -/
structure Met (D : Int → Int → Int) (ks : List Int) (nb : Int → List Int) (goal : Int) (vis : List (Int × Int)) : Prop where
  nv : (vis.map (·.1)).Nodup
  g : (goal, goal) ∈ vis
  to : ∀ q ∈ vis, q.1 = goal ∨ (q.2 ∈ nb q.1 ∧ Btw D q.1 q.2 goal ∧ q.2 ∈ vis.map (·.1))
  sub : ∀ q ∈ vis, q.1 ∈ ks
theorem Met.start (hg : goal ∈ ks) : Met D ks nb goal [(goal, goal)] :=
  ⟨by simp, List.mem_singleton.mpr rfl, fun q hq => .inl (by rw [List.mem_singleton.mp hq]), fun q hq => by rw [List.mem_singleton.mp hq]; exact hg⟩
theorem Met.len (m : Met D ks nb goal vis) : vis.length ≤ ks.length := by
  have := sub_len m.nv (m := ks) fun x hx => by
    obtain ⟨q, hq, rfl⟩ := List.mem_map.mp hx
    exact m.sub q hq
  rw [List.length_map] at this
  exact this
theorem Tr3.back (z : Tr3 D ever liv ks nb) (hg : goal ∈ ks) (hh : here ∈ ks) (hu : u ∈ nb here) (h : here = goal ∨ ∃ p, p ∈ nb here ∧ Btw D here p goal ∧ u ≠ p) : Btw D u here goal := by
  obtain ⟨u1, u2, _⟩ := (z.rp.adj here hh u).mp hu
  rcases h with rfl | ⟨p, hp, hb, n⟩
  · have := z.t.self here (z.hU here hh)
    unfold Btw
    omega
  · obtain ⟨p1, p2, _⟩ := (z.rp.adj here hh p).mp hp
    refine z.t.join (z.hU u u1) (z.hU here hh) (z.hU p p1) (z.hU u u1) (z.hU goal hg) (Ne.symm u2) (Ne.symm p2) (z.rp.through z.t z.hU hh hu hp n) ?_ hb
    have := z.t.self u (z.hU u u1)
    unfold Btw
    omega
theorem Met.add (m : Met D ks nb goal vis) (z : Tr3 D ever liv ks nb) (hg : goal ∈ ks) (hh : here ∈ vis.map (·.1)) (hu : u ∈ nb here) (n : u ∉ vis.map (·.1)) : Met D ks nb goal (vis ++ [(u, here)]) := by
  obtain ⟨q, hq, rfl⟩ := List.mem_map.mp hh
  have hk := m.sub q hq
  obtain ⟨u1, u2, _⟩ := (z.rp.adj _ hk u).mp hu
  refine ⟨?_, List.mem_append.mpr (.inl m.g), fun r hr => ?_, fun r hr => ?_⟩
  · rw [List.map_append]
    refine List.nodup_append.mpr ⟨m.nv, by simp, fun a ha b hb e => n ?_⟩
    have e2 : a = u := e.trans (List.mem_singleton.mp hb)
    rw [e2] at ha
    exact ha
  · rw [List.map_append]
    rcases List.mem_append.mp hr with h | h
    · rcases m.to r h with e | ⟨a, b, c⟩
      · exact .inl e
      · exact .inr ⟨a, b, List.mem_append.mpr (.inl c)⟩
    · rw [List.mem_singleton.mp h]
      refine .inr ⟨z.rp.sym z.t z.hU hk hu, z.back hg hk hu ?_, List.mem_append.mpr (.inl hh)⟩
      rcases m.to q hq with e | ⟨a, b, c⟩
      · exact .inl e
      · exact .inr ⟨q.2, a, b, fun e => n (by have e : u = q.2 := e; rw [e]; exact c)⟩
  · rcases List.mem_append.mp hr with h | h
    · exact m.sub r h
    · rw [List.mem_singleton.mp h]
      exact u1
theorem Met.all (m : Met D ks nb goal vis) (z : Tr3 D ever liv ks nb) (hg : goal ∈ ks) (cl : ∀ x ∈ vis.map (·.1), ∀ y ∈ nb x, y ∈ vis.map (·.1)) : ∀ x ∈ ks, x ∈ vis.map (·.1) := by
  have key : ∀ n : Nat, ∀ x ∈ ks, D x goal ≤ n → x ∈ vis.map (·.1) := by
    intro n
    induction n with
    | zero =>
      intro x hx h
      have h1 := z.t.nn x goal (z.hU x hx) (z.hU goal hg)
      rw [z.t.eq x goal (z.hU x hx) (z.hU goal hg) (by omega)]
      exact List.mem_map.mpr ⟨_, m.g, rfl⟩
    | succ n ih =>
      intro x hx h
      by_cases c : x = goal
      · rw [c]
        exact List.mem_map.mpr ⟨_, m.g, rfl⟩
      · obtain ⟨y, hy, b⟩ := z.rp.toward z.t z.hU hx hg c
        obtain ⟨y1, y2, _⟩ := (z.rp.adj x hx y).mp hy
        have p := z.t.pos (z.hU x hx) (z.hU y y1) (Ne.symm y2)
        unfold Btw at b
        exact cl y (ih y y1 (by omega)) x (z.rp.sym z.t z.hU hx hy)
  intro x hx
  exact key (D x goal).toNat x hx (by omega)
/-- the way from the one to the other -/
structure Way (D : Int → Int → Int) (ks : List Int) (nb : Int → List Int) (one other : Int) (fs : List Int) : Prop where
  inc : fs.Pairwise (fun a b => D one a < D one b)
  mem : ∀ x, x ∈ fs ↔ x ∈ ks ∧ Btw D one x other
  adj : ∀ (i : Nat) a b, fs[i]? = some a → fs[i + 1]? = some b → b ∈ nb a
  hd : fs[0]? = some one
  la : ∃ l, fs = l ++ [other]
structure Going2 (D : Int → Int → Int) (ks : List Int) (nb : Int → List Int) (one other : Int) (fs : List Int) (l : Int) : Prop where
  inc : fs.Pairwise (fun a b => D one a < D one b)
  mem : ∀ x ∈ fs, x ∈ ks ∧ Btw D one x other
  all : ∀ x ∈ ks, Btw D one x other → x ∈ fs ∨ Btw D l x other
  adj : ∀ (i : Nat) a b, fs[i]? = some a → fs[i + 1]? = some b → b ∈ nb a
  hd : fs[0]? = some one
  la : ∃ r, fs = r ++ [l]
variable {one other l : Int} {fs gs : List Int}
theorem Going2.start (z : Tr3 D ever liv ks nb) (h1 : one ∈ ks) (h2 : other ∈ ks) : Going2 D ks nb one other [one] one := by
  refine ⟨by simp, fun x hx => ?_, fun x _ h => .inr h, fun i a b h k => ?_, rfl, [], rfl⟩
  · rw [List.mem_singleton.mp hx]
    have := z.t.self one (z.hU one h1)
    refine ⟨h1, ?_⟩
    unfold Btw
    omega
  · have := (List.getElem?_eq_some_iff.mp k).1
    rw [List.length_singleton] at this
    omega
theorem Going2.inl (g : Going2 D ks nb one other fs l) : l ∈ fs := by
  obtain ⟨r, e⟩ := g.la
  rw [e]
  exact List.mem_append.mpr (.inr (List.mem_singleton.mpr rfl))
theorem Going2.go (g : Going2 D ks nb one other fs l) (z : Tr3 D ever liv ks nb) (h1 : one ∈ ks) (h2 : other ∈ ks) {y : Int} (hy : y ∈ nb l) (hb : Btw D l y other) : Going2 D ks nb one other (fs ++ [y]) y ∧ D y other < D l other := by
  obtain ⟨l1, l2⟩ := g.mem l g.inl
  obtain ⟨y1, y2, y3⟩ := (z.rp.adj l l1 y).mp hy
  have U1 := z.hU one h1
  have U2 := z.hU other h2
  have Ul := z.hU l l1
  have Uy := z.hU y y1
  have p := z.t.pos Ul Uy (Ne.symm y2)
  have t1 := z.t.tri U1 U2 Uy
  have t2 := z.t.tri U1 Uy Ul
  have far : D one l < D one y := by
    unfold Btw at l2 hb
    omega
  have by1 : Btw D one y other := by
    unfold Btw at l2 hb ⊢
    omega
  refine ⟨⟨?_, fun x hx => ?_, fun x hx b => ?_, fun i a b ha hb2 => ?_, ?_, fs, rfl⟩, by unfold Btw at hb; omega⟩
  · refine List.pairwise_append.mpr ⟨g.inc, by simp, fun a ha b hb2 => ?_⟩
    rw [List.mem_singleton.mp hb2]
    obtain ⟨r, e⟩ := g.la
    rw [e] at ha
    rcases List.mem_append.mp ha with h | h
    · have i := g.inc
      rw [e] at i
      have := (List.pairwise_append.mp i).2.2 a h l (List.mem_singleton.mpr rfl)
      omega
    · rw [List.mem_singleton.mp h]
      exact far
  · rcases List.mem_append.mp hx with h | h
    · exact g.mem x h
    · rw [List.mem_singleton.mp h]
      exact ⟨y1, by1⟩
  · rcases g.all x hx b with h | h
    · exact .inl (List.mem_append.mpr (.inl h))
    · by_cases c : x = l
      · rw [c]
        exact .inl (List.mem_append.mpr (.inl g.inl))
      · rcases z.t.line Ul Uy U2 (z.hU x hx) hb h with k | k
        · by_cases c2 : x = y
          · rw [c2]
            exact .inl (List.mem_append.mpr (.inr (List.mem_singleton.mpr rfl)))
          · exact absurd k (y3 x hx c c2)
        · exact .inr k
  · have bl := (List.getElem?_eq_some_iff.mp hb2).1
    rw [List.length_append, List.length_singleton] at bl
    by_cases c : i + 1 < fs.length
    · rw [List.getElem?_append_left (by omega)] at ha
      rw [List.getElem?_append_left c] at hb2
      exact g.adj i a b ha hb2
    · obtain ⟨r, e⟩ := g.la
      have el : fs.length = r.length + 1 := by rw [e, List.length_append, List.length_singleton]
      rw [List.getElem?_append_left (by omega), e, List.getElem?_append_right (by omega), show i - r.length = 0 by omega] at ha
      rw [List.getElem?_append_right (by omega), show i + 1 - fs.length = 0 by omega] at hb2
      cases ha
      cases hb2
      exact hy
  · rw [List.getElem?_append_left (List.length_pos_of_mem g.inl)]
    exact g.hd
theorem Going2.way (g : Going2 D ks nb one other fs other) (z : Tr3 D ever liv ks nb) : Way D ks nb one other fs := by
  obtain ⟨l1, l2⟩ := g.mem other g.inl
  refine ⟨g.inc, fun x => ⟨g.mem x, fun ⟨h1, h2⟩ => (g.all x h1 h2).elim id fun k => ?_⟩, g.adj, g.hd, g.la⟩
  have a := z.t.nn other x (z.hU _ l1) (z.hU x h1)
  have b := z.t.nn x other (z.hU x h1) (z.hU _ l1)
  have c := z.t.self other (z.hU _ l1)
  unfold Btw at k
  rw [z.t.eq x other (z.hU x h1) (z.hU _ l1) (by omega)]
  exact g.inl
theorem Way.uniq (h : Way D ks nb one other fs) {nb' : Int → List Int} (k : Way D ks nb' one other gs) : fs = gs :=
  pw_uniq (lt := fun a b => D one a < D one b) (fun a z => Int.lt_irrefl _ z) (fun a b y z => absurd (Int.lt_trans y z) (Int.lt_irrefl _)) h.inc k.inc fun x => by rw [h.mem, k.mem]
theorem Way.rev (h : Way D ks nb one other fs) (z : Tr3 D ever liv ks nb) (h1 : one ∈ ks) (h2 : other ∈ ks) (k : Way D ks nb other one gs) : gs = fs.reverse := by
  have U1 := z.hU one h1
  have U2 := z.hU other h2
  refine pw_uniq (lt := fun a b => D other a < D other b) (fun a z => Int.lt_irrefl _ z) (fun a b y z => absurd (Int.lt_trans y z) (Int.lt_irrefl _)) k.inc ?_ fun x => ?_
  · rw [List.pairwise_reverse]
    refine h.inc.imp_of_mem fun {a b} ha hb lt => ?_
    obtain ⟨a1, a2⟩ := (h.mem a).mp ha
    obtain ⟨b1, b2⟩ := (h.mem b).mp hb
    have := z.t.sym a other (z.hU a a1) U2
    have := z.t.sym b other (z.hU b b1) U2
    unfold Btw at a2 b2
    omega
  · rw [List.mem_reverse, h.mem, k.mem]
    constructor
    · rintro ⟨a, b⟩
      exact ⟨a, b.sym z.t U2 (z.hU x a) U1⟩
    · rintro ⟨a, b⟩
      exact ⟨a, b.sym z.t U1 (z.hU x a) U2⟩
theorem Way.nd (h : Way D ks nb one other fs) : fs.Nodup := h.inc.imp fun {a b} lt e => by
  rw [e] at lt
  omega
end

/-! ### as many ties as worlds but one -/
section
variable {D : Int → Int → Int} {ever g : Int} {liv ks : List Int} {nb : Int → List Int}
theorem Tr3.one_way (z : Tr3 D ever liv ks nb) (hg : g ∈ ks) {x p q : Int} (hx : x ∈ ks) (hp : p ∈ nb x) (hq : q ∈ nb x) (bp : Btw D x p g) (bq : Btw D x q g) : p = q := by
  refine Classical.byContradiction fun n => ?_
  obtain ⟨p1, p2, _⟩ := (z.rp.adj x hx p).mp hp
  obtain ⟨q1, q2, _⟩ := (z.rp.adj x hx q).mp hq
  have th := z.rp.through z.t z.hU hx hp hq n
  have U := fun {u} (h : u ∈ ks) => z.hU u h
  have k := z.t.join (U p1) (U hx) (U q1) (U hg) (U hg) (Ne.symm p2) (Ne.symm q2) th bp bq
  have a := z.t.self g (U hg)
  have b := z.t.nn g x (U hg) (U hx)
  have c := z.t.nn x g (U hx) (U hg)
  have d := z.t.pos (U hx) (U p1) (Ne.symm p2)
  have e := z.t.nn p g (U p1) (U hg)
  unfold Btw at k bp
  omega
theorem Tr3.rows_count (z : Tr3 D ever liv ks nb) {rs : List (Int × Int)} (nd : rs.Nodup) (ro : ∀ q, q ∈ rs ↔ q.1 ∈ ks ∧ q.2 ∈ nb q.1 ∧ q.1 < q.2) (hg : g ∈ ks) : rs.length + 1 = ks.length := by
  obtain ⟨par, hpar⟩ : ∃ par : Int → Int, ∀ x ∈ ks, x ≠ g → par x ∈ nb x ∧ Btw D x (par x) g := by
    have h : ∀ x, ∃ y, x ∈ ks → x ≠ g → y ∈ nb x ∧ Btw D x y g := fun x => by
      by_cases c : x ∈ ks ∧ x ≠ g
      · obtain ⟨y, y1, y2⟩ := z.rp.toward z.t z.hU c.1 hg c.2
        exact ⟨y, fun _ _ => ⟨y1, y2⟩⟩
      · exact ⟨0, fun a b => absurd ⟨a, b⟩ c⟩
    exact ⟨fun x => Classical.choose (h x), fun x => Classical.choose_spec (h x)⟩
  have me : ∀ {x}, x ∈ ks.erase g ↔ x ≠ g ∧ x ∈ ks := fun {x} => z.nk.mem_erase_iff
  have adj : ∀ {x y}, x ∈ ks → y ∈ nb x → y ∈ ks ∧ y ≠ x ∧ x ∈ nb y := fun {x y} hx hy => by
    obtain ⟨a, b, _⟩ := (z.rp.adj x hx y).mp hy
    exact ⟨a, b, z.rp.sym z.t z.hU hx hy⟩
  have key : (((ks.erase g).map fun x => (min x (par x), max x (par x))) : List (Int × Int)).Perm rs := by
    refine (List.perm_ext_iff_of_nodup ?_ nd).mpr fun q => ?_
    · refine List.pairwise_map.mpr ((z.nk.erase g).imp_of_mem fun {x y} hx hy n e => ?_)
      obtain ⟨x1, x2⟩ := me.mp hx
      obtain ⟨y1, y2⟩ := me.mp hy
      obtain ⟨p1, p2⟩ := hpar x x2 x1
      obtain ⟨r1, r2⟩ := hpar y y2 y1
      have e1 := congrArg Prod.fst e
      have e2 := congrArg Prod.snd e
      simp only at e1 e2
      have c : x = par y ∧ y = par x := by omega
      have U := fun {u} (h : u ∈ ks) => z.hU u h
      have s1 := z.t.sym x y (U x2) (U y2)
      have s2 := z.t.pos (U x2) (U y2) n
      rw [← c.2] at p2
      rw [← c.1] at r2
      unfold Btw at p2 r2
      omega
    · rw [List.mem_map, ro]
      constructor
      · rintro ⟨x, hx, rfl⟩
        obtain ⟨x1, x2⟩ := me.mp hx
        obtain ⟨p1, p2⟩ := hpar x x2 x1
        obtain ⟨a, b, c⟩ := adj x2 p1
        by_cases l : x < par x
        · rw [Int.min_eq_left (by omega), Int.max_eq_right (by omega)]
          exact ⟨x2, p1, l⟩
        · rw [Int.min_eq_right (by omega), Int.max_eq_left (by omega)]
          exact ⟨a, c, show par x < x by omega⟩
      · rintro ⟨h1, h2, h3⟩
        obtain ⟨a, b, c⟩ := adj h1 h2
        have hit : ∀ {x y}, x ∈ ks → x ≠ g → y ∈ nb x → Btw D x y g → par x = y := fun {x y} hx n hy hb => z.one_way hg hx (hpar x hx n).1 hy (hpar x hx n).2 hb
        by_cases c1 : q.2 = g
        · have n1 : q.1 ≠ g := by omega
          refine ⟨q.1, me.mpr ⟨n1, h1⟩, ?_⟩
          have bt : Btw D q.1 q.2 g := by
            rw [c1]
            have := z.t.self g (z.hU g hg)
            unfold Btw
            omega
          rw [hit h1 n1 h2 bt, Int.min_eq_left (by omega), Int.max_eq_right (by omega)]
        · by_cases c2 : par q.2 = q.1
          · refine ⟨q.2, me.mpr ⟨c1, a⟩, ?_⟩
            rw [c2, Int.min_eq_right (by omega), Int.max_eq_left (by omega)]
          · have n1 : q.1 ≠ g := fun e => c2 (hit a c1 c (by
              rw [e]
              have := z.t.self g (z.hU g hg)
              unfold Btw
              omega))
            have bt := z.back hg a c (.inr ⟨par q.2, (hpar q.2 a c1).1, (hpar q.2 a c1).2, fun e => c2 e.symm⟩)
            refine ⟨q.1, me.mpr ⟨n1, h1⟩, ?_⟩
            rw [hit h1 n1 h2 bt, Int.min_eq_left (by omega), Int.max_eq_right (by omega)]
  have e := key.length_eq
  rw [List.length_map, List.length_erase_of_mem hg] at e
  have := List.length_pos_of_mem hg
  omega
/-- more numbers told than worlds that were -/
theorem Rp.on {D' : Int → Int → Int} (r : Rp D ks nb) (h : ∀ u ∈ ks, ∀ v ∈ ks, D' u v = D u v) : Rp D' ks nb := by
  have b : ∀ {x y w}, x ∈ ks → y ∈ ks → w ∈ ks → (Btw D' x y w ↔ Btw D x y w) := fun {x y w} hx hy hw => by
    unfold Btw
    rw [h x hx y hy, h y hy w hw, h x hx w hw]
  refine ⟨r.nd, fun u hu v => ?_, fun u hu v hv w hw => ?_⟩
  · rw [r.adj u hu v]
    exact ⟨fun ⟨x, y, k⟩ => ⟨x, y, fun w hw n1 n2 q => k w hw n1 n2 ((b hu hw x).mp q)⟩, fun ⟨x, y, k⟩ => ⟨x, y, fun w hw n1 n2 q => k w hw n1 n2 ((b hu hw x).mpr q)⟩⟩
  · obtain ⟨m, hm, m1, m2, m3⟩ := r.med u hu v hv w hw
    exact ⟨m, hm, (b hu hm hv).mpr m1, (b hu hm hw).mpr m2, (b hv hm hw).mpr m3⟩
theorem Tr3.wider (z : Tr3 D ever liv ks nb) : ∃ D', Tr3 D' (ever + 1) liv ks nb := by
  have h0 : Un ever 0 := ⟨Int.le_refl _, z.e0⟩
  refine ⟨Dk D ever 0, z.t.fork h0, fun u hu => ?_, z.rp.on fun u hu v hv => ?_, z.nk, z.nl, z.sub, z.red, by have := z.e0; omega⟩
  · obtain ⟨a, b⟩ := z.hU u hu
    exact ⟨a, by omega⟩
  · have a := (z.hU u hu).2
    have b := (z.hU v hv).2
    exact dk_old (by omega) (by omega)
theorem Tr3.widen (z : Tr3 D ever liv ks nb) : ∀ n : Nat, ∃ D', Tr3 D' (ever + n) liv ks nb
  | 0 => ⟨D, by rw [Int.natCast_zero, Int.add_zero]; exact z⟩
  | n + 1 => by
    obtain ⟨D1, z1⟩ := z.widen n
    obtain ⟨D2, z2⟩ := z1.wider
    refine ⟨D2, ?_⟩
    rw [show ever + ((n + 1 : Nat) : Int) = ever + n + 1 by omega]
    exact z2
end

/-! ### what hangs beneath a world, and what it costs at the least -/
def minL : List Int → Int
  | [] => 0
  | [a] => a
  | a :: b :: l => min a (minL (b :: l))
theorem minL_spec : ∀ {l : List Int}, l ≠ [] → minL l ∈ l ∧ ∀ y ∈ l, minL l ≤ y
  | [], h => absurd rfl h
  | [a], _ => ⟨List.mem_singleton.mpr rfl, fun y hy => by rw [List.mem_singleton.mp hy]; exact Int.le_refl _⟩
  | a :: b :: l, _ => by
    obtain ⟨h1, h2⟩ := minL_spec (l := b :: l) (by simp)
    show min a (minL (b :: l)) ∈ a :: b :: l ∧ ∀ y ∈ a :: b :: l, min a (minL (b :: l)) ≤ y
    constructor
    · by_cases c : a ≤ minL (b :: l)
      · rw [Int.min_eq_left c]
        exact List.mem_cons_self
      · rw [Int.min_eq_right (by omega)]
        exact List.mem_cons_of_mem _ h1
    · intro y hy
      rcases List.mem_cons.mp hy with rfl | h
      · omega
      · have := h2 y h
        omega
theorem minL_uniq {l : List Int} {m : Int} (h : m ∈ l) (k : ∀ y ∈ l, m ≤ y) : m = minL l := by
  have ne : l ≠ [] := fun e => by rw [e] at h; cases h
  obtain ⟨a, b⟩ := minL_spec ne
  have := k _ a
  have := b _ h
  omega
abbrev Wy := Int × Int × Int
def bestC (qs : List Wy) : Int := minL (qs.map fun q => q.2.1)
def bestM (qs : List Wy) : Int := ((qs.filter fun q => decide (q.2.1 = bestC qs)).map fun q => q.2.2).sum
/-- what stands under a number -/
def wlook (qs : List Wy) (n : Int) : Option (Int × Int) := (qs.find? fun q => decide (q.1 = n)).map (·.2)
/-- what comes of a number over a tie: how much more, and how many -/
def there (qs : List Wy) (n : Int) : Int × Int :=
  match wlook qs n with
  | none => (bestC qs + 1, bestM qs)
  | some (c, m) => if c = bestC qs then (bestC qs, m) else if c = bestC qs + 1 then (bestC qs + 1, bestM qs + m) else (bestC qs + 1, bestM qs)
def tiedOn (qs bs : List Wy) : List Wy := qs.map fun q => (q.1, q.2.1 + (there bs q.1).1, q.2.2 * (there bs q.1).2)
/-- a row of worlds side by side, each with what hangs beneath it -/
inductive Fo where
  | nil : Fo
  | cons (w : Int) (k r : Fo) : Fo
def Fo.tops : Fo → List Int
  | .nil => []
  | .cons w _ r => w :: r.tops
def Fo.labs : Fo → List Int
  | .nil => []
  | .cons w k r => w :: (k.labs ++ r.labs)
def Fo.snoc : Fo → Int → Fo → Fo
  | .nil, u, f => .cons u f .nil
  | .cons w k r, u, f => .cons w k (r.snoc u f)
theorem Fo.snoc_tops (u : Int) (f : Fo) : ∀ F : Fo, (F.snoc u f).tops = F.tops ++ [u]
  | .nil => rfl
  | .cons w k r => by
    show w :: (r.snoc u f).tops = _
    rw [Fo.snoc_tops u f r]
    rfl
/-- the cost beneath a world with the number that g gives it -/
def Fo.cost (g : Int → Int) : Int → Fo → Int
  | _, .nil => 0
  | p, .cons w k r => (if g w = g p then 0 else 1) + k.cost g w + r.cost g p
/-- beneath each world stand its neighbours but the one above it -/
def Fo.Deep (nb : Int → List Int) : Int → Fo → Prop
  | _, .nil => True
  | p, .cons w k r => (k.tops.Nodup ∧ ∀ x, x ∈ k.tops ↔ x ∈ nb w ∧ x ≠ p) ∧ k.Deep nb w ∧ r.Deep nb p
theorem Fo.snoc_deep {nb : Int → List Int} {p u : Int} {f : Fo} (h1 : f.tops.Nodup) (h2 : ∀ x, x ∈ f.tops ↔ x ∈ nb u ∧ x ≠ p) (h3 : f.Deep nb u) : ∀ {F : Fo}, F.Deep nb p → (F.snoc u f).Deep nb p
  | .nil, _ => ⟨⟨h1, h2⟩, h3, trivial⟩
  | .cons _ _ _, h => ⟨h.1, h.2.1, Fo.snoc_deep h1 h2 h3 h.2.2⟩
/-- what hangs beneath w, come to by bk -/
def Fo.Is (nb : Int → List Int) (w : Int) (bk : Option Int) (F : Fo) : Prop := (F.tops.Nodup ∧ ∀ x, x ∈ F.tops ↔ x ∈ nb w ∧ some x ≠ bk) ∧ F.Deep nb w
section
variable {told : Int → Option Int} {nums : List Int}
def vals (told : Int → Option Int) (nums : List Int) (w : Int) : List Int :=
  match told w with
  | some n => [n]
  | none => nums
def ini (told : Int → Option Int) (nums : List Int) (w : Int) : List Wy := (vals told nums w).map fun n => (n, 0, 1)
def Fo.go (told : Int → Option Int) (nums : List Int) : Fo → List Wy → List Wy
  | .nil, a => a
  | .cons w k r, a => r.go told nums (tiedOn a (k.go told nums (ini told nums w)))
theorem Fo.go_snoc (u : Int) (f : Fo) : ∀ (F : Fo) (a : List Wy), (F.snoc u f).go told nums a = tiedOn (F.go told nums a) (f.go told nums (ini told nums u))
  | .nil, _ => rfl
  | .cons _ _ r, _ => Fo.go_snoc u f r _
/-- the ways of a world with what hangs beneath it -/
def Fo.at_ (told : Int → Option Int) (nums : List Int) (k : Fo) (w : Int) : List Wy := k.go told nums (ini told nums w)
def Fo.low (told : Int → Option Int) (nums : List Int) : Fo → Int → Int
  | .nil, _ => 0
  | .cons w k r, n => (there (k.at_ told nums w) n).1 + r.low told nums n
def Fo.mny (told : Int → Option Int) (nums : List Int) : Fo → Int → Int
  | .nil, _ => 1
  | .cons w k r, n => (there (k.at_ told nums w) n).2 * r.mny told nums n
theorem Fo.go_eq : ∀ (F : Fo) (a : List Wy), F.go told nums a = a.map fun q => (q.1, q.2.1 + F.low told nums q.1, q.2.2 * F.mny told nums q.1)
  | .nil, a => by
    refine Eq.trans (List.map_id a).symm (List.map_congr_left fun q _ => ?_)
    show q = (q.1, q.2.1 + 0, q.2.2 * 1)
    rw [Int.add_zero, Int.mul_one]
  | .cons w k r, a => by
    show r.go told nums (tiedOn a (k.at_ told nums w)) = _
    rw [Fo.go_eq r]
    unfold tiedOn
    rw [List.map_map]
    refine List.map_congr_left fun q _ => ?_
    show (q.1, q.2.1 + (there (k.at_ told nums w) q.1).1 + r.low told nums q.1, q.2.2 * (there (k.at_ told nums w) q.1).2 * r.mny told nums q.1) = _
    rw [Int.add_assoc, Int.mul_assoc]
    rfl
theorem Fo.at_eq (k : Fo) (w : Int) : k.at_ told nums w = (vals told nums w).map fun n => (n, k.low told nums n, k.mny told nums n) := by
  unfold Fo.at_
  rw [Fo.go_eq]
  unfold ini
  rw [List.map_map]
  refine List.map_congr_left fun n _ => ?_
  show (n, 0 + k.low told nums n, 1 * k.mny told nums n) = _
  rw [Int.zero_add, Int.one_mul]
theorem vals_ne (hn : nums ≠ []) (w : Int) : vals told nums w ≠ [] := by
  unfold vals
  cases told w with
  | some n => simp
  | none => exact hn
def ne1 (a b : Int) : Int := if a = b then 0 else 1
theorem find_map {f m : Int → Int} {n : Int} : ∀ {vs : List Int}, n ∈ vs → wlook (vs.map fun a => (a, f a, m a)) n = some (f n, m n)
  | [], h => by cases h
  | a :: vs, h => by
    unfold wlook
    rw [List.map_cons, List.find?_cons]
    by_cases c : a = n
    · subst c
      rw [decide_eq_true rfl]
      rfl
    · rw [decide_eq_false c]
      exact find_map ((List.mem_cons.mp h).resolve_left (Ne.symm c))
theorem find_none {f m : Int → Int} {n : Int} {vs : List Int} (h : n ∉ vs) : wlook (vs.map fun a => (a, f a, m a)) n = none := by
  unfold wlook
  rw [List.find?_eq_none.mpr fun q hq => ?_]
  · rfl
  · obtain ⟨a, ha, rfl⟩ := List.mem_map.mp hq
    simp only [decide_eq_true_eq]
    intro e
    exact h (e ▸ ha)
theorem bestC_map {f m : Int → Int} {vs : List Int} : bestC (vs.map fun a => (a, f a, m a)) = minL (vs.map f) := by
  unfold bestC
  rw [List.map_map]
  rfl
theorem there_in {f m : Int → Int} {n : Int} {vs : List Int} (h : n ∈ vs) : (there (vs.map fun a => (a, f a, m a)) n).1 = if f n = minL (vs.map f) then minL (vs.map f) else minL (vs.map f) + 1 := by
  unfold there
  rw [find_map h, bestC_map]
  show (if f n = _ then _ else _ : Int × Int).1 = _
  split
  · rfl
  · split <;> rfl
theorem there_out {f m : Int → Int} {n : Int} {vs : List Int} (h : n ∉ vs) : (there (vs.map fun a => (a, f a, m a)) n).1 = minL (vs.map f) + 1 := by
  unfold there
  rw [find_none h, bestC_map]
theorem there_le {f m : Int → Int} {n : Int} {vs : List Int} : (∀ a ∈ vs, (there (vs.map fun a => (a, f a, m a)) n).1 ≤ ne1 a n + f a) := by
  intro a ha
  have ne : vs.map f ≠ [] := fun e => by
    rw [List.map_eq_nil_iff.mp e] at ha
    cases ha
  have s := (minL_spec ne).2 (f a) (List.mem_map.mpr ⟨a, ha, rfl⟩)
  unfold ne1
  by_cases c : n ∈ vs
  · rw [there_in c]
    by_cases e : a = n
    · rw [if_pos e]
      subst e
      split <;> omega
    · rw [if_neg e]
      split <;> omega
  · rw [there_out c, if_neg (fun e : a = n => c (e ▸ ha))]
    omega
theorem there_got {f m : Int → Int} {n : Int} {vs : List Int} (ne : vs ≠ []) : ∃ a ∈ vs, (there (vs.map fun a => (a, f a, m a)) n).1 = ne1 a n + f a := by
  have s := (minL_spec (l := vs.map f) (fun e => ne (List.map_eq_nil_iff.mp e))).1
  obtain ⟨b, hb, eb⟩ := List.mem_map.mp s
  unfold ne1
  by_cases c : n ∈ vs
  · rw [there_in c]
    by_cases e : f n = minL (vs.map f)
    · exact ⟨n, c, by rw [if_pos e, if_pos rfl]; omega⟩
    · refine ⟨b, hb, ?_⟩
      rw [if_neg e, if_neg fun e2 => e (by rw [← e2, eb])]
      omega
  · rw [there_out c]
    exact ⟨b, hb, by rw [if_neg (fun e2 : b = n => c (e2 ▸ hb))]; omega⟩
/-- the least cost of a world with what hangs beneath it -/
def Fo.bst (told : Int → Option Int) (nums : List Int) (k : Fo) (w : Int) : Int := minL ((vals told nums w).map (k.low told nums))
theorem Fo.bestC_at (k : Fo) (w : Int) : bestC (k.at_ told nums w) = k.bst told nums w := by
  rw [Fo.at_eq]
  exact bestC_map
theorem Fo.low_le (k r : Fo) (w n : Int) : ∀ a ∈ vals told nums w, (Fo.cons w k r).low told nums n ≤ ne1 a n + k.low told nums a + r.low told nums n := fun a ha => by
  show (there (k.at_ told nums w) n).1 + r.low told nums n ≤ _
  rw [Fo.at_eq]
  have := there_le (f := k.low told nums) (m := k.mny told nums) (n := n) a ha
  omega
theorem Fo.low_got (hn : nums ≠ []) (k r : Fo) (w n : Int) : ∃ a ∈ vals told nums w, (Fo.cons w k r).low told nums n = ne1 a n + k.low told nums a + r.low told nums n := by
  obtain ⟨a, ha, e⟩ := there_got (f := k.low told nums) (m := k.mny told nums) (n := n) (vals_ne (told := told) hn w)
  refine ⟨a, ha, ?_⟩
  show (there (k.at_ told nums w) n).1 + r.low told nums n = _
  rw [Fo.at_eq, e]
/-- told by sets: the least cost of each beneath, and one where the number isn't among its best -/
theorem Fo.low_cons (k r : Fo) (w n : Int) : (Fo.cons w k r).low told nums n = k.bst told nums w + (if n ∈ vals told nums w ∧ k.low told nums n = k.bst told nums w then 0 else 1) + r.low told nums n := by
  show (there (k.at_ told nums w) n).1 + r.low told nums n = _
  rw [Fo.at_eq]
  by_cases c : n ∈ vals told nums w
  · rw [there_in c]
    unfold Fo.bst
    by_cases e : k.low told nums n = minL ((vals told nums w).map (k.low told nums))
    · rw [if_pos e, if_pos ⟨c, e⟩]
      omega
    · rw [if_neg e, if_neg fun z => e z.2]
  · rw [there_out c, if_neg fun z => c z.1]
    rfl
theorem vals_sub (tn : ∀ w n, told w = some n → n ∈ nums) (w : Int) : ∀ a ∈ vals told nums w, a ∈ nums := by
  intro a ha
  unfold vals at ha
  cases e : told w with
  | some n =>
    rw [e] at ha
    rw [List.mem_singleton.mp ha]
    exact tn w n e
  | none =>
    rw [e] at ha
    exact ha
theorem Fo.low_out (tn : ∀ w n, told w = some n → n ∈ nums) {a b : Int} (h : a ∉ nums) : ∀ F : Fo, F.low told nums b ≤ F.low told nums a
  | .nil => Int.le_refl _
  | .cons w k r => by
    have ih := Fo.low_out tn (b := b) h r
    rw [Fo.low_cons, Fo.low_cons, if_neg (c := a ∈ vals told nums w ∧ _) fun z => h (vals_sub tn w a z.1)]
    split <;> omega
theorem Fo.low_in (tn : ∀ w n, told w = some n → n ∈ nums) (hn : nums ≠ []) {a : Int} (h : a ∉ nums) : ∀ F : Fo, F.tops ≠ [] → ∃ b ∈ nums, F.low told nums b + 1 ≤ F.low told nums a
  | .nil, z => absurd rfl z
  | .cons w k r, _ => by
    have ne : (vals told nums w).map (k.low told nums) ≠ [] := fun e => vals_ne (told := told) hn w (List.map_eq_nil_iff.mp e)
    obtain ⟨b, hb, e⟩ := List.mem_map.mp (minL_spec ne).1
    refine ⟨b, vals_sub tn w b hb, ?_⟩
    have := Fo.low_out (told := told) tn (b := b) h r
    rw [Fo.low_cons, Fo.low_cons, if_neg (c := a ∈ vals told nums w ∧ _) fun z => h (vals_sub tn w a z.1), if_pos ⟨hb, e⟩]
    omega
/-- worlds of no told number have something beneath them -/
def Fo.Red (told : Int → Option Int) : Fo → Prop
  | .nil => True
  | .cons w k r => (told w = none → k.tops ≠ []) ∧ k.Red told ∧ r.Red told
/-- no keeping costs less -/
theorem Fo.least (tn : ∀ w n, told w = some n → n ∈ nums) (hn : nums ≠ []) {g : Int → Int} : ∀ (F : Fo) (p : Int), F.Red told → (∀ x ∈ F.labs, ∀ n, told x = some n → g x = n) → F.low told nums (g p) ≤ F.cost g p
  | .nil, _, _, _ => Int.le_refl _
  | .cons w k r, p, red, h => by
    have i1 := Fo.least tn hn (g := g) k w red.2.1 fun x hx => h x (List.mem_cons_of_mem _ (List.mem_append_left _ hx))
    have i2 := Fo.least tn hn (g := g) r p red.2.2 fun x hx => h x (List.mem_cons_of_mem _ (List.mem_append_right _ hx))
    have e : (Fo.cons w k r).cost g p = ne1 (g w) (g p) + k.cost g w + r.cost g p := rfl
    rw [e]
    by_cases c : g w ∈ vals told nums w
    · have := Fo.low_le (told := told) (nums := nums) k r w (g p) _ c
      omega
    · have tw : told w = none := by
        cases et : told w with
        | none => rfl
        | some n =>
          refine absurd ?_ c
          unfold vals
          rw [et]
          exact List.mem_singleton.mpr (h w List.mem_cons_self n et)
      have ev : vals told nums w = nums := by
        unfold vals
        rw [tw]
      rw [ev] at c
      obtain ⟨b, hb, le⟩ := Fo.low_in tn hn c k (red.1 tw)
      have := Fo.low_le (told := told) (nums := nums) k r w (g p) b (by rw [ev]; exact hb)
      have n1 : ne1 b (g p) ≤ 1 := by unfold ne1; split <;> omega
      have n2 : 0 ≤ ne1 (g w) (g p) := by unfold ne1; split <;> omega
      omega
theorem Fo.cost_on {g h : Int → Int} : ∀ (F : Fo) (p : Int), (∀ x ∈ F.labs, g x = h x) → g p = h p → F.cost g p = F.cost h p
  | .nil, _, _, _ => rfl
  | .cons w k r, p, e, ep => by
    show (if g w = g p then 0 else 1) + k.cost g w + r.cost g p = (if h w = h p then 0 else 1) + k.cost h w + r.cost h p
    have ew := e w List.mem_cons_self
    rw [Fo.cost_on k w (fun x hx => e x (List.mem_cons_of_mem _ (List.mem_append_left _ hx))) ew, Fo.cost_on r p (fun x hx => e x (List.mem_cons_of_mem _ (List.mem_append_right _ hx))) ep, ew, ep]
/-- a keeping costs that -/
theorem Fo.got (tn : ∀ w n, told w = some n → n ∈ nums) (hn : nums ≠ []) : ∀ (F : Fo) (p n : Int), F.labs.Nodup → p ∉ F.labs → ∃ g : Int → Int, (∀ x ∈ F.labs, ∀ m, told x = some m → g x = m) ∧ (∀ x ∈ F.labs, g x ∈ nums) ∧ g p = n ∧ F.cost g p = F.low told nums n
  | .nil, p, n, _, _ => ⟨fun _ => n, fun x hx => (nomatch hx), fun x hx => (nomatch hx), rfl, rfl⟩
  | .cons w k r, p, n, nd, np => by
    have nd : (w :: (k.labs ++ r.labs)).Nodup := nd
    have np : p ∉ w :: (k.labs ++ r.labs) := np
    rw [List.nodup_cons, List.mem_append, List.nodup_append] at nd
    rw [List.mem_cons, List.mem_append] at np
    obtain ⟨nw, nk, nr, nkr⟩ := nd
    obtain ⟨a, ha, ea⟩ := Fo.low_got (told := told) hn k r w n
    obtain ⟨g1, g11, g12, g13, g14⟩ := Fo.got tn hn k w a nk fun z => nw (.inl z)
    obtain ⟨g2, g21, g22, g23, g24⟩ := Fo.got tn hn r p n nr fun z => np (.inr (.inr z))
    refine ⟨fun x => if x = w ∨ x ∈ k.labs then g1 x else g2 x, fun x hx m hm => ?_, fun x hx => ?_, ?_, ?_⟩
    · have hx : x ∈ w :: (k.labs ++ r.labs) := hx
      by_cases c : x = w ∨ x ∈ k.labs
      · simp only [if_pos c]
        rcases c with rfl | c
        · rw [g13]
          unfold vals at ha
          rw [hm] at ha
          exact List.mem_singleton.mp ha
        · exact g11 x c m hm
      · simp only [if_neg c]
        rw [List.mem_cons, List.mem_append] at hx
        exact g21 x (by rcases hx with h | h | h; exact absurd (.inl h) c; exact absurd (.inr h) c; exact h) m hm
    · have hx : x ∈ w :: (k.labs ++ r.labs) := hx
      by_cases c : x = w ∨ x ∈ k.labs
      · simp only [if_pos c]
        rcases c with rfl | c
        · rw [g13]
          exact vals_sub tn x a ha
        · exact g12 x c
      · simp only [if_neg c]
        rw [List.mem_cons, List.mem_append] at hx
        exact g22 x (by rcases hx with h | h | h; exact absurd (.inl h) c; exact absurd (.inr h) c; exact h)
    · have c : ¬ (p = w ∨ p ∈ k.labs) := fun z => np (z.elim .inl fun h => .inr (.inl h))
      simp only [if_neg c]
      exact g23
    · have cp : ¬ (p = w ∨ p ∈ k.labs) := fun z => np (z.elim .inl fun h => .inr (.inl h))
      have e1 : k.cost (fun x => if x = w ∨ x ∈ k.labs then g1 x else g2 x) w = k.cost g1 w := Fo.cost_on k w (fun x hx => by simp only [if_pos (Or.inr hx : x = w ∨ x ∈ k.labs)]) (by simp)
      have e2 : r.cost (fun x => if x = w ∨ x ∈ k.labs then g1 x else g2 x) p = r.cost g2 p := Fo.cost_on r p (fun x hx => by
        have c : ¬ (x = w ∨ x ∈ k.labs) := fun z => z.elim (fun e => nw (.inr (e ▸ hx))) fun h => nkr x h x hx rfl
        simp only [if_neg c]) (by simp only [if_neg cp])
      show (if (if w = w ∨ w ∈ k.labs then g1 w else g2 w) = (if p = w ∨ p ∈ k.labs then g1 p else g2 p) then 0 else 1) + _ + _ = _
      rw [e1, e2, if_pos (Or.inl rfl), if_neg cp, ea, g14, g24, g13, g23]
      rfl
end

/-! ### what hangs beneath a root is the whole tree -/
def cstI (f : Int → Int) (rs : List (Int × Int)) : Int := ((rs.filter fun q => !decide (f q.1 = f q.2)).length : Int)
def mkE (a b : Int) : Int × Int := (min a b, max a b)
theorem mkE_comm (a b : Int) : mkE a b = mkE b a := by
  unfold mkE
  rw [Int.min_comm, Int.max_comm]
def Fo.eds : Int → Fo → List (Int × Int)
  | _, .nil => []
  | p, .cons w k r => mkE p w :: (k.eds w ++ r.eds p)
theorem Fo.eds_len : ∀ (F : Fo) (p : Int), (F.eds p).length = F.labs.length
  | .nil, _ => rfl
  | .cons w k r, p => by
    show (mkE p w :: (k.eds w ++ r.eds p)).length = (w :: (k.labs ++ r.labs)).length
    rw [List.length_cons, List.length_cons, List.length_append, List.length_append, Fo.eds_len k, Fo.eds_len r]
theorem Fo.cost_eds (g : Int → Int) : ∀ (F : Fo) (p : Int), F.cost g p = cstI g (F.eds p)
  | .nil, _ => rfl
  | .cons w k r, p => by
    show (if g w = g p then 0 else 1) + k.cost g w + r.cost g p = cstI g (mkE p w :: (k.eds w ++ r.eds p))
    rw [Fo.cost_eds g k, Fo.cost_eds g r]
    unfold cstI
    rw [List.filter_cons, List.filter_append]
    have e : (g (mkE p w).1 = g (mkE p w).2) ↔ g w = g p := by
      unfold mkE
      by_cases c : p ≤ w
      · rw [Int.min_eq_left c, Int.max_eq_right c]
        exact eq_comm
      · rw [Int.min_eq_right (by omega), Int.max_eq_left (by omega)]
    by_cases c : g w = g p
    · rw [if_pos c, if_neg (by simp [e.mpr c]), List.length_append]
      omega
    · rw [if_neg c, if_pos (by rw [Bool.not_eq_true', decide_eq_false_iff_not]; exact fun h => c (e.mp h)), List.length_cons, List.length_append]
      omega
theorem Fo.tops_in : ∀ (F : Fo) (p u : Int), u ∈ F.tops → mkE p u ∈ F.eds p ∧ u ∈ F.labs
  | .nil, _, _, h => by cases h
  | .cons w k r, p, u, h => by
    show mkE p u ∈ mkE p w :: (k.eds w ++ r.eds p) ∧ u ∈ w :: (k.labs ++ r.labs)
    rcases List.mem_cons.mp h with e | h
    · rw [e]
      exact ⟨List.mem_cons_self, List.mem_cons_self⟩
    · obtain ⟨a, b⟩ := Fo.tops_in r p u h
      exact ⟨List.mem_cons_of_mem _ (List.mem_append_right _ a), List.mem_cons_of_mem _ (List.mem_append_right _ b)⟩
theorem Fo.closed {nb : Int → List Int} : ∀ (F : Fo) (p : Int), F.Deep nb p → ∀ x ∈ F.labs, ∀ y ∈ nb x, mkE x y ∈ F.eds p ∧ (y = p ∨ y ∈ F.labs)
  | .nil, _, _, x, h, _, _ => by cases h
  | .cons w k r, p, d, x, hx, y, hy => by
    show mkE x y ∈ mkE p w :: (k.eds w ++ r.eds p) ∧ (y = p ∨ y ∈ w :: (k.labs ++ r.labs))
    have hx : x ∈ w :: (k.labs ++ r.labs) := hx
    rw [List.mem_cons, List.mem_append] at hx
    rcases hx with rfl | h | h
    · by_cases c : y = p
      · rw [c, mkE_comm]
        exact ⟨List.mem_cons_self, .inl rfl⟩
      · obtain ⟨a, b⟩ := Fo.tops_in k x y ((d.1.2 y).mpr ⟨hy, c⟩)
        exact ⟨List.mem_cons_of_mem _ (List.mem_append_left _ a), .inr (List.mem_cons_of_mem _ (List.mem_append_left _ b))⟩
    · obtain ⟨a, b⟩ := Fo.closed k w d.2.1 x h y hy
      refine ⟨List.mem_cons_of_mem _ (List.mem_append_left _ a), .inr ?_⟩
      rcases b with rfl | b
      · exact List.mem_cons_self
      · exact List.mem_cons_of_mem _ (List.mem_append_left _ b)
    · obtain ⟨a, b⟩ := Fo.closed r p d.2.2 x h y hy
      exact ⟨List.mem_cons_of_mem _ (List.mem_append_right _ a), b.imp_right fun b => List.mem_cons_of_mem _ (List.mem_append_right _ b)⟩
theorem perm_of {α : Type} [DecidableEq α] : ∀ {l m : List α}, l.Nodup → (∀ x ∈ l, x ∈ m) → m.length ≤ l.length → l.Perm m
  | [], m, _, _, h => by
    cases m with
    | nil => exact .refl _
    | cons a m => simp at h
  | a :: l, m, n, h, le => by
    rw [List.nodup_cons] at n
    have ha := h a List.mem_cons_self
    have el := List.length_erase_of_mem ha
    have p := perm_of (l := l) (m := m.erase a) n.2 (fun x hx => (List.mem_erase_of_ne (fun z : x = a => n.1 (by rw [← z]; exact hx))).mpr (h x (List.mem_cons_of_mem _ hx))) (by rw [List.length_cons] at le; omega)
    exact (p.cons a).trans (List.perm_cons_erase ha).symm
section
variable {D : Int → Int → Int} {ever root : Int} {liv ks : List Int} {nb : Int → List Int} {told : Int → Option Int} {nums : List Int}
theorem Tr3.kids_apart (z : Tr3 D ever liv ks nb) (hr : root ∈ ks) {w u u2 x : Int} (hw : w ∈ ks) (hu : u ∈ nb w) (hu2 : u2 ∈ nb w) (n : u ≠ u2) (b : Btw D u w root) (b2 : Btw D u2 w root) (hx : x ∈ ks) (h : Btw D x u root) (h2 : Btw D x u2 root) : False := by
  have U := fun {u} (h : u ∈ ks) => z.hU u h
  have k1 := ((z.rp.adj w hw u).mp hu)
  have k2 := ((z.rp.adj w hw u2).mp hu2)
  have th := z.rp.through z.t z.hU hw hu hu2 n
  have ln := z.t.line (U hx) (U k1.1) (U hr) (U k2.1) h h2
  have s1 := z.t.sym u u2 (U k1.1) (U k2.1)
  have s2 := z.t.sym w u2 (U hw) (U k2.1)
  have s3 := z.t.sym w u (U hw) (U k1.1)
  have p1 := z.t.pos (U hw) (U k2.1) (Ne.symm k2.2.1)
  have p2 := z.t.pos (U hw) (U k1.1) (Ne.symm k1.2.1)
  unfold Btw at *
  rcases ln with l | l <;> omega
theorem Fo.under (z : Tr3 D ever liv ks nb) (hr : root ∈ ks) : ∀ (F : Fo) (w : Int) (bk : Option Int), w ∈ ks → F.Deep nb w → F.tops.Nodup → (∀ u ∈ F.tops, u ∈ nb w ∧ some u ≠ bk) → (w = root ∧ bk = none ∨ ∃ b, bk = some b ∧ b ∈ nb w ∧ Btw D w b root) →
    F.labs.Nodup ∧ ∀ x ∈ F.labs, x ∈ ks ∧ ∃ u ∈ F.tops, Btw D x u root ∧ Btw D u w root
  | .nil, _, _, _, _, _, _, _ => ⟨List.nodup_nil, fun x hx => by cases hx⟩
  | .cons u k r, w, bk, hw, d, nt, sub, bw => by
    have U := fun {u} (h : u ∈ ks) => z.hU u h
    obtain ⟨hu, nbk⟩ := sub u List.mem_cons_self
    obtain ⟨u1, u2, _⟩ := (z.rp.adj w hw u).mp hu
    have nt : (u :: r.tops).Nodup := nt
    rw [List.nodup_cons] at nt
    have hs := z.rp.sym z.t z.hU hw hu
    have bu : Btw D u w root := z.back hr hw hu (by
      rcases bw with ⟨e, _⟩ | ⟨b, e, b1, b2⟩
      · exact .inl e
      · exact .inr ⟨b, b1, b2, fun e2 => nbk (by rw [e, e2])⟩)
    obtain ⟨n1, i1⟩ := Fo.under z hr k u (some w) u1 d.2.1 d.1.1 (fun x hx => by
      obtain ⟨a, b⟩ := (d.1.2 x).mp hx
      exact ⟨a, fun e => b (by injection e)⟩) (.inr ⟨w, rfl, hs, bu⟩)
    obtain ⟨n2, i2⟩ := Fo.under z hr r w bk hw d.2.2 nt.2 (fun x hx => sub x (List.mem_cons_of_mem _ hx)) bw
    have far : ∀ x ∈ k.labs, x ∈ ks ∧ Btw D x u root ∧ x ≠ u := fun x hx => by
      obtain ⟨xk, v, hv, bx, bv⟩ := i1 x hx
      have hv1 := ((d.1.2 v).mp hv).1
      obtain ⟨v1, v2, _⟩ := (z.rp.adj u u1 v).mp hv1
      have t1 := z.t.tri (U xk) (U u1) (U v1)
      have t2 := z.t.tri (U xk) (U hr) (U u1)
      have p := z.t.pos (U v1) (U u1) v2
      have q := z.t.nn x v (U xk) (U v1)
      unfold Btw at *
      refine ⟨xk, by omega, fun e => ?_⟩
      rw [e] at bx q
      omega
    refine ⟨?_, fun x hx => ?_⟩
    · show (u :: (k.labs ++ r.labs)).Nodup
      rw [List.nodup_cons, List.mem_append, List.nodup_append]
      refine ⟨fun h => ?_, n1, n2, fun x hx y hy e => ?_⟩
      · rcases h with h | h
        · exact (far u h).2.2 rfl
        · obtain ⟨uk, v, hv, bx, bv⟩ := i2 u h
          have nuv : u ≠ v := fun e => nt.1 (e ▸ hv)
          refine z.kids_apart hr hw hu (sub v (List.mem_cons_of_mem _ hv)).1 nuv bu bv uk ?_ bx
          have := z.t.self u (U uk)
          unfold Btw
          omega
      · obtain ⟨yk, v, hv, bx, bv⟩ := i2 y hy
        have nuv : u ≠ v := fun e => nt.1 (e ▸ hv)
        subst e
        exact z.kids_apart hr hw hu (sub v (List.mem_cons_of_mem _ hv)).1 nuv bu bv yk (far x hx).2.1 bx
    · have hx : x ∈ u :: (k.labs ++ r.labs) := hx
      rw [List.mem_cons, List.mem_append] at hx
      rcases hx with rfl | h | h
      · refine ⟨u1, x, List.mem_cons_self, ?_, bu⟩
        have := z.t.self x (U u1)
        unfold Btw
        omega
      · exact ⟨(far x h).1, u, List.mem_cons_self, (far x h).2.1, bu⟩
      · obtain ⟨xk, v, hv, bx⟩ := i2 x h
        exact ⟨xk, v, List.mem_cons_of_mem _ hv, bx⟩
theorem Fo.Is.labs {F : Fo} (h : F.Is nb root none) (z : Tr3 D ever liv ks nb) (hr : root ∈ ks) : F.labs.Nodup ∧ root ∉ F.labs ∧ ∀ x ∈ F.labs, x ∈ ks := by
  obtain ⟨a, b⟩ := Fo.under z hr F root none hr h.2 h.1.1 (fun u hu => (h.1.2 u).mp hu) (.inl ⟨rfl, rfl⟩)
  refine ⟨a, fun hx => ?_, fun x hx => (b x hx).1⟩
  obtain ⟨_, u, hu, b1, b2⟩ := b root hx
  have U := fun {u} (h : u ∈ ks) => z.hU u h
  obtain ⟨u1, u2, _⟩ := (z.rp.adj root hr u).mp ((h.1.2 u).mp hu).1
  have p := z.t.pos (U hr) (U u1) (Ne.symm u2)
  have s := z.t.self root (U hr)
  have q := z.t.nn u root (U u1) (U hr)
  unfold Btw at b1
  omega
theorem Fo.Is.all {F : Fo} (h : F.Is nb root none) (z : Tr3 D ever liv ks nb) (hr : root ∈ ks) : ∀ x ∈ ks, x = root ∨ x ∈ F.labs := by
  have U := fun {u} (h : u ∈ ks) => z.hU u h
  have key : ∀ n : Nat, ∀ x ∈ ks, D x root ≤ n → x = root ∨ x ∈ F.labs := by
    intro n
    induction n with
    | zero =>
      intro x hx h0
      exact .inl (z.t.eq x root (U hx) (U hr) (by have := z.t.nn x root (U hx) (U hr); omega))
    | succ n ih =>
      intro x hx h0
      by_cases c : x = root
      · exact .inl c
      · obtain ⟨y, hy, bt⟩ := z.rp.toward z.t z.hU hx hr c
        obtain ⟨y1, y2, _⟩ := (z.rp.adj x hx y).mp hy
        have p := z.t.pos (U hx) (U y1) (Ne.symm y2)
        unfold Btw at bt
        have hs := z.rp.sym z.t z.hU hx hy
        rcases ih y y1 (by omega) with e | m
        · rw [e] at hs
          exact .inr (Fo.tops_in F root x ((h.1.2 x).mpr ⟨hs, fun e => by cases e⟩)).2
        · rcases (Fo.closed F root h.2 y m x hs).2 with e | m
          · exact .inl e
          · exact .inr m
  intro x hx
  have := z.t.nn x root (U hx) (U hr)
  exact key (D x root).toNat x hx (by omega)
theorem Fo.Is.rows {F : Fo} (h : F.Is nb root none) (z : Tr3 D ever liv ks nb) (hr : root ∈ ks) {rs : List (Int × Int)} (nd : rs.Nodup) (ro : ∀ q, q ∈ rs ↔ q.1 ∈ ks ∧ q.2 ∈ nb q.1 ∧ q.1 < q.2) : rs.Perm (F.eds root) := by
  obtain ⟨a, b, c⟩ := h.labs z hr
  have len := z.rows_count nd ro hr
  refine perm_of nd (fun q hq => ?_) ?_
  · obtain ⟨q1, q2, q3⟩ := (ro q).mp hq
    have e : q = mkE q.1 q.2 := by
      unfold mkE
      rw [Int.min_eq_left (by omega), Int.max_eq_right (by omega)]
    rw [e]
    rcases h.all z hr q.1 q1 with e | m
    · rw [e]
      exact (Fo.tops_in F root q.2 ((h.1.2 _).mpr ⟨by rw [← e]; exact q2, fun e => by cases e⟩)).1
    · exact (Fo.closed F root h.2 q.1 m q.2 q2).1
  · rw [Fo.eds_len]
    have := sub_len (l := root :: F.labs) (m := ks) (List.nodup_cons.mpr ⟨b, a⟩) fun x hx => by
      rcases List.mem_cons.mp hx with rfl | hx
      · exact hr
      · exact c x hx
    rw [List.length_cons] at this
    omega
theorem Fo.Is.cst {F : Fo} (h : F.Is nb root none) (z : Tr3 D ever liv ks nb) (hr : root ∈ ks) {rs : List (Int × Int)} (nd : rs.Nodup) (ro : ∀ q, q ∈ rs ↔ q.1 ∈ ks ∧ q.2 ∈ nb q.1 ∧ q.1 < q.2) (g : Int → Int) : cstI g rs = F.cost g root := by
  rw [Fo.cost_eds]
  unfold cstI
  rw [((h.rows z hr nd ro).filter _).length_eq]
theorem Fo.Deep.red {told : Int → Option Int} (z : Tr3 D ever liv ks nb) (ht : ∀ x ∈ liv, told x ≠ none) : ∀ (F : Fo) (p : Int), F.Deep nb p → (∀ x ∈ F.labs, x ∈ ks) → F.Red told
  | .nil, _, _, _ => trivial
  | .cons w k r, p, d, h => by
    refine ⟨fun tw e => ?_, Fo.Deep.red z ht k w d.2.1 fun x hx => h x (List.mem_cons_of_mem _ (List.mem_append_left _ hx)), Fo.Deep.red z ht r p d.2.2 fun x hx => h x (List.mem_cons_of_mem _ (List.mem_append_right _ hx))⟩
    have hw := h w List.mem_cons_self
    have n3 := z.red w hw fun m => ht w m tw
    have l1 := sub_len (l := nb w) (m := [p]) (z.rp.nd w hw) fun x hx => by
      refine List.mem_singleton.mpr (Classical.byContradiction fun n => ?_)
      have := (d.1.2 x).mpr ⟨hx, n⟩
      rw [e] at this
      cases this
    rw [List.length_singleton] at l1
    omega
def Ext (told : Int → Option Int) (ks : List Int) (g : Int → Int) : Prop := ∀ x ∈ ks, ∀ n, told x = some n → g x = n
/-- the numbers of the root: what costs at the least each of them -/
theorem Fo.Is.low_le {F : Fo} (h : F.Is nb root none) (z : Tr3 D ever liv ks nb) (hr : root ∈ ks) (ht : ∀ x ∈ liv, told x ≠ none) (tn : ∀ w n, told w = some n → n ∈ nums) (hn : nums ≠ []) {rs : List (Int × Int)} (nd : rs.Nodup) (ro : ∀ q, q ∈ rs ↔ q.1 ∈ ks ∧ q.2 ∈ nb q.1 ∧ q.1 < q.2) {g : Int → Int} (hg : Ext told ks g) :
    F.low told nums (g root) ≤ cstI g rs := by
  obtain ⟨a, b, c⟩ := h.labs z hr
  rw [h.cst z hr nd ro]
  exact Fo.least tn hn F root (Fo.Deep.red z ht F root h.2 c) fun x hx => hg x (c x hx)
theorem Fo.Is.low_got {F : Fo} (h : F.Is nb root none) (z : Tr3 D ever liv ks nb) (hr : root ∈ ks) (tn : ∀ w n, told w = some n → n ∈ nums) (hn : nums ≠ []) {rs : List (Int × Int)} (nd : rs.Nodup) (ro : ∀ q, q ∈ rs ↔ q.1 ∈ ks ∧ q.2 ∈ nb q.1 ∧ q.1 < q.2) {n : Int} (hv : n ∈ vals told nums root) :
    ∃ g, Ext told ks g ∧ (∀ x ∈ ks, g x ∈ nums) ∧ g root = n ∧ cstI g rs = F.low told nums n := by
  obtain ⟨a, b, c⟩ := h.labs z hr
  obtain ⟨g, g1, g2, g3, g4⟩ := Fo.got (told := told) tn hn F root n a b
  refine ⟨g, fun x hx m hm => ?_, fun x hx => ?_, g3, by rw [h.cst z hr nd ro, g4]⟩
  · rcases h.all z hr x hx with rfl | hx
    · rw [g3]
      unfold vals at hv
      rw [hm] at hv
      exact List.mem_singleton.mp hv
    · exact g1 x hx m hm
  · rcases h.all z hr x hx with rfl | hx
    · rw [g3]
      exact vals_sub tn x n hv
    · exact g2 x hx
/-- the least cost of all keepings that have what is told -/
structure Lst (told : Int → Option Int) (nums ks : List Int) (rs : List (Int × Int)) (m : Int) : Prop where
  le : ∀ g, Ext told ks g → m ≤ cstI g rs
  got : ∃ g, Ext told ks g ∧ (∀ x ∈ ks, g x ∈ nums) ∧ cstI g rs = m
theorem Lst.uniq {rs : List (Int × Int)} {m m' : Int} (h : Lst told nums ks rs m) (h' : Lst told nums ks rs m') : m = m' := by
  obtain ⟨g, g1, _, g3⟩ := h.got
  obtain ⟨g', g1', _, g3'⟩ := h'.got
  have := h.le g' g1'
  have := h'.le g g1
  omega
theorem Fo.Is.bst {F : Fo} (h : F.Is nb root none) (z : Tr3 D ever liv ks nb) (hr : root ∈ ks) (ht : ∀ x ∈ liv, told x ≠ none) (tn : ∀ w n, told w = some n → n ∈ nums) (hn : nums ≠ []) {rs : List (Int × Int)} (nd : rs.Nodup) (ro : ∀ q, q ∈ rs ↔ q.1 ∈ ks ∧ q.2 ∈ nb q.1 ∧ q.1 < q.2) :
    Lst told nums ks rs (F.bst told nums root) := by
  have ne : (vals told nums root).map (F.low told nums) ≠ [] := fun e => vals_ne (told := told) hn root (List.map_eq_nil_iff.mp e)
  obtain ⟨s1, s2⟩ := minL_spec ne
  refine ⟨fun g hg => ?_, ?_⟩
  · have le := h.low_le z hr ht tn hn nd ro hg
    have key : ∃ a ∈ vals told nums root, F.low told nums a ≤ F.low told nums (g root) := by
      by_cases c : g root ∈ vals told nums root
      · exact ⟨_, c, Int.le_refl _⟩
      · have tw : told root = none := by
          cases et : told root with
          | none => rfl
          | some n =>
            refine absurd ?_ c
            unfold vals
            rw [et]
            exact List.mem_singleton.mpr (hg root hr n et)
        have ev : vals told nums root = nums := by
          unfold vals
          rw [tw]
        rw [ev] at c ⊢
        obtain ⟨b, hb, le⟩ := Fo.low_in tn hn c F (fun e => by
          have n3 := z.red root hr fun m => ht root m tw
          have l1 := sub_len (l := nb root) (m := []) (z.rp.nd root hr) fun x hx => by
            have := (h.1.2 x).mpr ⟨hx, fun e => by cases e⟩
            rw [e] at this
            exact this
          rw [List.length_nil] at l1
          omega)
        exact ⟨b, hb, by omega⟩
    obtain ⟨a, ha, la⟩ := key
    have := s2 _ (List.mem_map.mpr ⟨a, ha, rfl⟩)
    unfold Fo.bst
    omega
  · obtain ⟨n, hv, e⟩ := List.mem_map.mp s1
    obtain ⟨g, g1, g2, _, g4⟩ := h.low_got z hr tn hn nd ro hv
    exact ⟨g, g1, g2, by rw [g4, e]; rfl⟩
/-- with one number told more -/
def tell1 (told : Int → Option Int) (w n : Int) : Int → Option Int := fun x => if x = w then some n else told x
theorem Fo.Is.lown {F : Fo} (h : F.Is nb root none) (z : Tr3 D ever liv ks nb) (hr : root ∈ ks) (ht : ∀ x ∈ liv, told x ≠ none) (tn : ∀ w n, told w = some n → n ∈ nums) (hn : nums ≠ []) {rs : List (Int × Int)} (nd : rs.Nodup) (ro : ∀ q, q ∈ rs ↔ q.1 ∈ ks ∧ q.2 ∈ nb q.1 ∧ q.1 < q.2) {n : Int} (tr : told root = none) (hv : n ∈ nums) :
    Lst (tell1 told root n) nums ks rs (F.low told nums n) := by
  have ev : vals told nums root = nums := by
    unfold vals
    rw [tr]
  have ex : ∀ {g}, Ext (tell1 told root n) ks g ↔ Ext told ks g ∧ g root = n := fun {g} => by
    constructor
    · intro hg
      refine ⟨fun x hx m hm => hg x hx m ?_, hg root hr n (by unfold tell1; rw [if_pos rfl])⟩
      unfold tell1
      rw [if_neg fun e => by rw [e, tr] at hm; cases hm]
      exact hm
    · rintro ⟨hg, e⟩ x hx m hm
      unfold tell1 at hm
      by_cases c : x = root
      · rw [if_pos c] at hm
        injection hm with hm
        rw [c, e, hm]
      · rw [if_neg c] at hm
        exact hg x hx m hm
  refine ⟨fun g hg => ?_, ?_⟩
  · obtain ⟨h1, h2⟩ := ex.mp hg
    have := h.low_le z hr ht tn hn nd ro h1
    rw [h2] at this
    exact this
  · obtain ⟨g, g1, g2, g3, g4⟩ := h.low_got (told := told) z hr tn hn nd ro (n := n) (by rw [ev]; exact hv)
    exact ⟨g, ex.mpr ⟨g1, g3⟩, g2, g4⟩
end
section
variable {D : Int → Int → Int} {ever root : Int} {liv ks : List Int} {nb : Int → List Int}
theorem Fo.len_le (z : Tr3 D ever liv ks nb) (hrt : root ∈ ks) {F : Fo} {w : Int} {bk : Option Int} (hw : w ∈ ks) (d : F.Deep nb w) (nt : F.tops.Nodup) (sub : ∀ u ∈ F.tops, u ∈ nb w ∧ some u ≠ bk) (bw : w = root ∧ bk = none ∨ ∃ b, bk = some b ∧ b ∈ nb w ∧ Btw D w b root) : F.labs.length ≤ ks.length := by
  obtain ⟨a, b⟩ := Fo.under z hrt F w bk hw d nt sub bw
  exact sub_len a fun x hx => (b x hx).1
theorem Fo.go_keys {told : Int → Option Int} {nums : List Int} : ∀ (F : Fo) (a : List Wy), (F.go told nums a).map (·.1) = a.map (·.1)
  | .nil, _ => rfl
  | .cons w k r, a => by
    show (r.go told nums (tiedOn a (k.go told nums (ini told nums w)))).map (·.1) = _
    rw [Fo.go_keys r]
    unfold tiedOn
    rw [List.map_map]
    rfl
theorem ini_keys {told : Int → Option Int} {nums : List Int} (w : Int) : (ini told nums w).map (·.1) = vals told nums w := by
  unfold ini
  rw [List.map_map]
  exact List.map_id _
theorem vals_nd {told : Int → Option Int} {nums : List Int} (h : nums.Nodup) (w : Int) : (vals told nums w).Nodup := by
  unfold vals
  cases told w with
  | none => exact h
  | some n => simp
end

/-! ### how many there can be at the most -/
def Bnd (e : Nat) (qs : List Wy) : Prop := ∀ q ∈ qs, 0 ≤ q.2.2 ∧ q.2.2 ≤ ((2 ^ (7 * e) : Nat) : Int)
theorem Bnd.mono {e e' : Nat} {qs : List Wy} (h : Bnd e qs) (le : e ≤ e') : Bnd e' qs := fun q hq => by
  obtain ⟨a, b⟩ := h q hq
  have := Nat.pow_le_pow_right (n := 2) (by decide) (show 7 * e ≤ 7 * e' by omega)
  exact ⟨a, by omega⟩
theorem sum_bnd {b : Int} (hb : 0 ≤ b) : ∀ {l : List Int}, (∀ x ∈ l, 0 ≤ x ∧ x ≤ b) → 0 ≤ l.sum ∧ l.sum ≤ l.length * b
  | [], _ => ⟨Int.le_refl _, by simp⟩
  | a :: l, h => by
    obtain ⟨h1, h2⟩ := sum_bnd hb fun x hx => h x (List.mem_cons_of_mem _ hx)
    obtain ⟨h3, h4⟩ := h a List.mem_cons_self
    rw [List.sum_cons, List.length_cons]
    have e : ((l.length + 1 : Nat) : Int) * b = (l.length : Int) * b + b := by
      rw [Int.natCast_add, Int.add_mul]
      simp
    rw [e]
    omega
theorem bestM_bnd {e : Nat} {qs : List Wy} (h : Bnd e qs) (l : qs.length ≤ 64) : 0 ≤ bestM qs ∧ bestM qs ≤ 64 * ((2 ^ (7 * e) : Nat) : Int) := by
  have hb : (0 : Int) ≤ ((2 ^ (7 * e) : Nat) : Int) := Int.natCast_nonneg _
  obtain ⟨a, b⟩ := sum_bnd hb (l := (qs.filter fun q => decide (q.2.1 = bestC qs)).map fun q => q.2.2) fun x hx => by
    obtain ⟨q, hq, rfl⟩ := List.mem_map.mp hx
    exact h q (List.mem_filter.mp hq).1
  refine ⟨a, Int.le_trans b ?_⟩
  rw [List.length_map]
  have := List.length_filter_le (fun q : Wy => decide (q.2.1 = bestC qs)) qs
  exact Int.mul_le_mul_of_nonneg_right (by omega) hb
theorem there_bnd {e : Nat} {qs : List Wy} (h : Bnd e qs) (l : qs.length ≤ 64) (n : Int) : 0 ≤ (there qs n).2 ∧ (there qs n).2 ≤ 65 * ((2 ^ (7 * e) : Nat) : Int) := by
  obtain ⟨a, b⟩ := bestM_bnd h l
  have hb : (0 : Int) ≤ ((2 ^ (7 * e) : Nat) : Int) := Int.natCast_nonneg _
  unfold there
  cases hw : wlook qs n with
  | none => exact ⟨a, by dsimp only; omega⟩
  | some cm =>
    obtain ⟨c, m⟩ := cm
    have hm : 0 ≤ m ∧ m ≤ ((2 ^ (7 * e) : Nat) : Int) := by
      unfold wlook at hw
      cases hf : qs.find? fun q => decide (q.1 = n) with
      | none => rw [hf] at hw; cases hw
      | some q =>
        rw [hf] at hw
        have e2 : q.2 = (c, m) := by injection hw
        have := h q (List.mem_of_find?_eq_some hf)
        rw [e2] at this
        exact this
    dsimp only
    split
    · exact ⟨hm.1, by dsimp only; omega⟩
    · split
      · exact ⟨by dsimp only; omega, by dsimp only; omega⟩
      · exact ⟨a, by dsimp only; omega⟩
theorem tied_bnd {e e' : Nat} {qs bs : List Wy} (h : Bnd e qs) (h' : Bnd e' bs) (l : bs.length ≤ 64) : Bnd (e + e' + 1) (tiedOn qs bs) := fun q hq => by
  obtain ⟨r, hr, rfl⟩ := List.mem_map.mp hq
  obtain ⟨a, b⟩ := h r hr
  obtain ⟨c, d⟩ := there_bnd h' l r.1
  refine ⟨Int.mul_nonneg a c, Int.le_trans (Int.mul_le_mul b d c (Int.natCast_nonneg _)) ?_⟩
  have e1 : (2 ^ (7 * (e + e' + 1)) : Nat) = 2 ^ (7 * e) * (128 * 2 ^ (7 * e')) := by
    rw [show 7 * (e + e' + 1) = 7 * e + (7 + 7 * e') by omega, Nat.pow_add, Nat.pow_add]
  rw [e1, Int.natCast_mul]
  refine Int.mul_le_mul_of_nonneg_left ?_ (Int.natCast_nonneg _)
  have : (0 : Int) ≤ ((2 ^ (7 * e') : Nat) : Int) := Int.natCast_nonneg _
  omega
theorem ini_bnd {told : Int → Option Int} {nums : List Int} (w : Int) : Bnd 0 (ini told nums w) := fun q hq => by
  obtain ⟨n, _, rfl⟩ := List.mem_map.mp hq
  exact ⟨by dsimp only; omega, by dsimp only; decide⟩
theorem ini_len {told : Int → Option Int} {nums : List Int} (hn : nums.length ≤ 64) (w : Int) : (ini told nums w).length ≤ 64 := by
  unfold ini vals
  rw [List.length_map]
  cases told w with
  | none => exact hn
  | some n => simp
theorem Fo.go_len {told : Int → Option Int} {nums : List Int} : ∀ (F : Fo) (a : List Wy), (F.go told nums a).length = a.length
  | .nil, _ => rfl
  | .cons w k r, a => by
    show (r.go told nums (tiedOn a (k.go told nums (ini told nums w)))).length = _
    rw [Fo.go_len r]
    unfold tiedOn
    rw [List.length_map]
theorem Fo.go_bnd {told : Int → Option Int} {nums : List Int} (hn : nums.length ≤ 64) : ∀ (F : Fo) (e : Nat) (a : List Wy), Bnd e a → Bnd (e + F.labs.length) (F.go told nums a)
  | .nil, _, _, h => h
  | .cons w k r, e, a, h => by
    have i1 := Fo.go_bnd (told := told) hn k 0 (ini told nums w) (ini_bnd w)
    have i2 := tied_bnd h i1 (by rw [Fo.go_len]; exact ini_len hn w)
    have i3 := Fo.go_bnd (told := told) hn r _ _ i2
    refine i3.mono ?_
    show _ ≤ e + (w :: (k.labs ++ r.labs)).length
    rw [List.length_cons, List.length_append]
    omega
theorem Fo.at_bnd {told : Int → Option Int} {nums : List Int} (hn : nums.length ≤ 64) (F : Fo) (w : Int) : Bnd F.labs.length (F.at_ told nums w) := by
  have := Fo.go_bnd (told := told) hn F 0 (ini told nums w) (ini_bnd w)
  rw [Nat.zero_add] at this
  exact this
theorem bnd_log {e : Nat} {x : Int} (h0 : 0 ≤ x) (h : x ≤ 65 * ((2 ^ (7 * e) : Nat) : Int)) : x.natAbs.log2 ≤ 7 * e + 7 := by
  by_cases c : x.natAbs = 0
  · rw [c]
    exact Nat.zero_le _
  · have : x.natAbs < 2 ^ (7 * e + 7) := by
      rw [Nat.pow_add]
      omega
    have := (Nat.log2_lt c).mpr this
    omega

/-! ### data of any kind -/
section
variable {K : PySem.W.Frag} {H H' : Hp} {ws : List Addr}
mutual
/-- data none of whose lists is in ws -/
inductive Dx (K : PySem.W.Frag) (H : Hp) (ws : List Addr) : V → PyData → Prop
  | non : Dx K H ws .non .none
  | bl (b : Bool) : Dx K H ws (.bl b) (.bool b)
  | int (i : Int) : Dx K H ws (.int i) (.int i)
  | str (x : Str) : Dx K H ws (.str x) (.str x)
  | lst {a : Addr} {xs : List V} {ds : List PyData} : a ∉ ws → H a = some (.lst xs) → DxAll K H ws xs ds → Dx K H ws (.ref a) (.list ds)
  | tup {a : Addr} {xs : List V} {ds : List PyData} : SqT K H a xs → DxAll K H ws xs ds → Dx K H ws (.ref a) (.tuple ds)
inductive DxAll (K : PySem.W.Frag) (H : Hp) (ws : List Addr) : List V → List PyData → Prop
  | nil : DxAll K H ws [] []
  | cons {v : V} {vs : List V} {d : PyData} {ds : List PyData} : Dx K H ws v d → DxAll K H ws vs ds → DxAll K H ws (v :: vs) (d :: ds)
end
mutual
theorem Dx.dp : ∀ (d : PyData) (v : V), Dx K H ws v d → Dp K H v d
  | .none, _, h => by cases h; exact .non
  | .bool b, _, h => by cases h; exact .bl b
  | .int i, _, h => by cases h; exact .int i
  | .str x, _, h => by cases h; exact .str x
  | .list ds, _, h => by
    cases h with
    | lst _ hs ha => exact .lst (SqL.of hs) (DxAll.dp ds _ ha)
  | .tuple ds, _, h => by
    cases h with
    | tup hs ha => exact .tup hs (DxAll.dp ds _ ha)
  | .dict _, _, h => by cases h
theorem DxAll.dp : ∀ (ds : List PyData) (vs : List V), DxAll K H ws vs ds → DpAll K H vs ds
  | [], _, h => by cases h; exact .nil
  | d :: ds, _, h => by
    cases h with
    | cons h1 h2 => exact .cons (Dx.dp d _ h1) (DxAll.dp ds _ h2)
end
mutual
theorem Dx.kp (k : Kp ws H H') : ∀ (d : PyData) (v : V), Dx K H ws v d → Dx K H' ws v d
  | .none, _, h => by cases h; exact .non
  | .bool b, _, h => by cases h; exact .bl b
  | .int i, _, h => by cases h; exact .int i
  | .str x, _, h => by cases h; exact .str x
  | .list ds, _, h => by
    cases h with
    | lst n hs ha => exact .lst n (k.at_ _ _ hs n) (DxAll.kp k ds _ ha)
  | .tuple ds, _, h => by
    cases h with
    | tup hs ha => exact .tup (k.seqT hs) (DxAll.kp k ds _ ha)
  | .dict _, _, h => by cases h
theorem DxAll.kp (k : Kp ws H H') : ∀ (ds : List PyData) (vs : List V), DxAll K H ws vs ds → DxAll K H' ws vs ds
  | [], _, h => by cases h; exact .nil
  | d :: ds, _, h => by
    cases h with
    | cons h1 h2 => exact .cons (Dx.kp k d _ h1) (DxAll.kp k ds _ h2)
end
mutual
theorem dx_imm : ∀ (d : PyData) (v : V), imm d = true → Dp K H v d → Dx K H ws v d
  | .none, _, _, h => by cases h; exact .non
  | .bool b, _, _, h => by cases h; exact .bl b
  | .int i, _, _, h => by cases h; exact .int i
  | .str x, _, _, h => by cases h; exact .str x
  | .list ds, _, e, h => by simp [imm] at e
  | .tuple ds, _, e, h => by
    cases h with
    | tup hs ha => exact .tup hs (dxs_imm ds _ (by simpa [imm] using e) ha)
  | .dict _, _, _, h => by cases h
theorem dxs_imm : ∀ (ds : List PyData) (vs : List V), imms ds = true → DpAll K H vs ds → DxAll K H ws vs ds
  | [], _, _, h => by cases h; exact .nil
  | d :: ds, _, e, h => by
    cases h with
    | cons h1 h2 =>
      simp only [imms, Bool.and_eq_true] at e
      exact .cons (dx_imm d _ e.1 h1) (dxs_imm ds _ e.2 h2)
end
mutual
theorem Dx.wider {us : List Addr} (hu : ∀ b ∈ us, ∀ xs, H b ≠ some (.lst xs)) : ∀ (d : PyData) (v : V), Dx K H ws v d → Dx K H (us ++ ws) v d
  | .none, _, h => by cases h; exact .non
  | .bool b, _, h => by cases h; exact .bl b
  | .int i, _, h => by cases h; exact .int i
  | .str x, _, h => by cases h; exact .str x
  | .list ds, _, h => by
    cases h with
    | lst n hs ha => exact .lst (fun z => (List.mem_append.mp z).elim (fun z => hu _ z _ hs) n) hs (DxAll.wider hu ds _ ha)
  | .tuple ds, _, h => by
    cases h with
    | tup hs ha => exact .tup hs (DxAll.wider hu ds _ ha)
  | .dict _, _, h => by cases h
theorem DxAll.wider {us : List Addr} (hu : ∀ b ∈ us, ∀ xs, H b ≠ some (.lst xs)) : ∀ (ds : List PyData) (vs : List V), DxAll K H ws vs ds → DxAll K H (us ++ ws) vs ds
  | [], _, h => by cases h; exact .nil
  | d :: ds, _, h => by
    cases h with
    | cons h1 h2 => exact .cons (Dx.wider hu d _ h1) (DxAll.wider hu ds _ h2)
end
theorem dxa_len : ∀ {ds : List PyData} {vs : List V}, DxAll K H ws vs ds → vs.length = ds.length
  | [], _, h => by cases h; rfl
  | d :: ds, _, h => by
    cases h with
    | cons h1 h2 => rw [List.length_cons, List.length_cons, dxa_len h2]
theorem dxa_get : ∀ {ds : List PyData} {vs : List V} {i : Nat} {v : V}, DxAll K H ws vs ds → vs[i]? = some v → ∃ d, ds[i]? = some d ∧ Dx K H ws v d
  | [], _, _, _, h, e => by
    cases h
    simp at e
  | d :: ds, _, 0, _, h, e => by
    cases h with
    | cons h1 h2 =>
      cases e
      exact ⟨d, rfl, h1⟩
  | d :: ds, _, i + 1, _, h, e => by
    cases h with
    | cons h1 h2 =>
      obtain ⟨q, e1, e2⟩ := dxa_get (i := i) h2 (by simpa using e)
      exact ⟨q, by simpa using e1, e2⟩
theorem dxa_app : ∀ {ds es : List PyData} {vs us : List V}, DxAll K H ws vs ds → DxAll K H ws us es → DxAll K H ws (vs ++ us) (ds ++ es)
  | [], _, _, _, h, h' => by
    cases h
    exact h'
  | d :: ds, _, _, _, h, h' => by
    cases h with
    | cons h1 h2 => exact .cons h1 (dxa_app h2 h')
theorem dxa_set : ∀ {ds : List PyData} {vs : List V} {i : Nat} {v : V} {d : PyData}, DxAll K H ws vs ds → Dx K H ws v d → DxAll K H ws (vs.set i v) (ds.set i d)
  | [], _, _, _, _, h, _ => by
    cases h
    exact .nil
  | _ :: ds, _, 0, _, _, h, h' => by
    cases h with
    | cons h1 h2 => exact .cons h' h2
  | _ :: ds, _, i + 1, _, _, h, h' => by
    cases h with
    | cons h1 h2 => exact .cons h1 (dxa_set h2 h')
theorem dxa_take : ∀ {ds : List PyData} {vs : List V} (i : Nat), DxAll K H ws vs ds → DxAll K H ws (vs.take i) (ds.take i)
  | [], _, _, h => by
    cases h
    rw [List.take_nil, List.take_nil]
    exact .nil
  | _ :: ds, _, 0, h => by
    rw [List.take_zero, List.take_zero]
    exact .nil
  | _ :: ds, _, i + 1, h => by
    cases h with
    | cons h1 h2 => exact .cons h1 (dxa_take i h2)
theorem dxa_drop : ∀ {ds : List PyData} {vs : List V} (i : Nat), DxAll K H ws vs ds → DxAll K H ws (vs.drop i) (ds.drop i)
  | [], _, _, h => by
    cases h
    rw [List.drop_nil, List.drop_nil]
    exact .nil
  | _ :: ds, _, 0, h => h
  | _ :: ds, _, i + 1, h => by
    cases h with
    | cons h1 h2 => exact dxa_drop i h2
/-- data, or an empty dict -/
def Tg (K : PySem.W.Frag) (H : Hp) (ws : List Addr) (v : V) (d : PyData) : Prop := Dx K H ws v d ∨ (d = .dict [] ∧ ∃ a, v = .ref a ∧ H a = some (.dK []) ∧ a ∉ ws)
theorem Tg.kp {v : V} {d : PyData} (t : Tg K H ws v d) (k : Kp ws H H') : Tg K H' ws v d := by
  rcases t with h | ⟨rfl, a, rfl, h, n⟩
  · exact .inl (h.kp k _ _)
  · exact .inr ⟨rfl, a, rfl, k.at_ _ _ h n, n⟩
theorem Tg.ty {v : V} {d : PyData} (t : Tg K H ws v d) : TyX K H v (.type (dty d)) := by
  rcases t with h | ⟨rfl, a, rfl, h, n⟩
  · exact dp_ty (h.dp _ _)
  · exact .base (.dK h)
theorem i_isT {T : String} {b : Bool} {Q : VK} {v : V} {d : PyData} (t : Tg K H ws v d) (e : kitB (dty d) T = some b) (h : Q (.bl b) H) :
    rIsi K [v, .ty T] H Q := ⟨v, .ty T, _, _, b, rfl, .ty T, t.ty, L2.kit_ty e, h⟩
def kInt : PyData → Bool
  | .int _ => true
  | .bool _ => true
  | _ => false
def kBool : PyData → Bool
  | .bool _ => true
  | _ => false
def kTup : PyData → Bool
  | .tuple _ => true
  | _ => false
def kLst : PyData → Bool
  | .list _ => true
  | _ => false
theorem kit_int (d : PyData) : kitB (dty d) "int" = some (kInt d) := by cases d <;> (simp only [dty, kInt]; decide +kernel)
theorem kit_bool (d : PyData) : kitB (dty d) "bool" = some (kBool d) := by cases d <;> (simp only [dty, kBool]; decide +kernel)
theorem kit_tup (d : PyData) : kitB (dty d) "tuple" = some (kTup d) := by cases d <;> (simp only [dty, kTup]; decide +kernel)
theorem kit_lst (d : PyData) : kitB (dty d) "list" = some (kLst d) := by cases d <;> (simp only [dty, kLst]; decide +kernel)
theorem i_bool2 {b : Bool} {A B : Prop} (h1 : b = true → A) (h2 : b = false → B) : if b = true then A else B := by
  cases b
  · exact iteF (h2 rfl)
  · exact iteT (h1 rfl)
def isI : PyData → Bool
  | .int _ => true
  | _ => false
def whD (d : PyData) (a b : Int) : Bool :=
  match d with
  | .int n => decide (a ≤ n ∧ n ≤ b)
  | _ => false
theorem isI_eq (d : PyData) : isI d = (kInt d && !kBool d) := by cases d <;> rfl
theorem isI_int {d : PyData} (h : isI d = true) : ∃ n, d = .int n := by
  cases d with
  | int n => exact ⟨n, rfl⟩
  | _ => cases h
theorem whD_no {d : PyData} {a b : Int} (h : isI d = false) : whD d a b = false := by
  cases d with
  | int n => cases h
  | _ => rfl
theorem whD_int {d : PyData} {a b : Int} (h : whD d a b = true) : ∃ n, d = .int n ∧ a ≤ n ∧ n ≤ b := by
  cases d with
  | int n => exact ⟨n, rfl, of_decide_eq_true h⟩
  | _ => cases h
end

/-! ### numbers, asked of anything -/
def Any (K : PySem.W.Frag) (H : Hp) (v : V) (d : PyData) : Prop := TyX K H v (.type (dty d)) ∧ ∀ n, d = .int n → v = .int n
theorem Any.dp {K : PySem.W.Frag} {H : Hp} {v : V} {d : PyData} (h : Dp K H v d) : Any K H v d := ⟨dp_ty h, fun n e => by
  subst e
  cases h
  rfl⟩
theorem Any.int {K : PySem.W.Frag} {H : Hp} (n : Int) : Any K H (.int n) (.int n) := .dp (.int n)
theorem i_isA {K : PySem.W.Frag} {H : Hp} {T : String} {b : Bool} {Q : VK} {v : V} {d : PyData} (t : Any K H v d) (e : kitB (dty d) T = some b) (h : Q (.bl b) H) :
    rIsi K [v, .ty T] H Q := ⟨v, .ty T, _, _, b, rfl, .ty T, t.1, L2.kit_ty e, h⟩

/-! ### ties -/
def kA (p : Int × Addr) : Key × V := (.inl p.1, .ref p.2)
def tfs (e : Int) (lv nd : Addr) : List (Str × V) := [("own_ever", .int e), ("own_living", .ref lv), ("near", .ref nd)]
structure TiX (C : Addr) (H : Hp) (t lv nd dx : Addr) (rep : List (Int × Addr)) (ever : Int) (liv : List Int) (nb : Int → List Int) : Prop where
  ht : H t = some (.ins C dx (tfs ever lv nd))
  hl : H lv = some (.lst (liv.map V.int))
  hn : H nd = some (.dK (rep.map kA))
  hr : ∀ p ∈ rep, H p.2 = some (.lst ((nb p.1).map V.int))
  ad : (t :: lv :: nd :: rep.map (·.2)).Nodup
  nk : (rep.map (·.1)).Nodup
/-- t holds ties; ps: what is its own -/
def TiesAt (C : Addr) (H : Hp) (t : Addr) (ps : List Addr) (ever : Int) (liv ks : List Int) (nb : Int → List Int) : Prop :=
  ∃ lv nd dx rep, TiX C H t lv nd dx rep ever liv nb ∧ ps = t :: lv :: nd :: rep.map (·.2) ∧ ks = rep.map (·.1)
def Grow (H : Hp) (ps ps' : List Addr) : Prop := ∀ b ∈ ps', b ∈ ps ∨ Fr H b
section
variable {C : Addr} {H H' : Hp} {t lv nd dx : Addr} {rep : List (Int × Addr)} {ever : Int} {liv ks : List Int} {nb : Int → List Int} {ws ps ps' : List Addr}
theorem Grow.refl : Grow H ps ps := fun b h => .inl h
theorem Grow.nin {p : Addr} (g : Grow H ps ps') (t : Tr H p) (n : p ∉ ps) : p ∉ ps' := fun z => by
  rcases g p z with h | h
  · exact n h
  · obtain ⟨o, e⟩ := t.ex
    rw [h.e] at e
    cases e
theorem Grow.trans {ps2 : List Addr} (g : Grow H ps ps') (k : Kp ps H H') (g2 : Grow H' ps' ps2) : Grow H ps ps2 := fun b h => by
  rcases g2 b h with z | z
  · exact g b z
  · refine .inr ⟨?_⟩
    cases q : H b with
    | none => rfl
    | some u =>
      obtain ⟨v, e⟩ := k.dom b u q
      rw [z.e] at e
      cases e
/-- a change to what is its own and was not there before -/
theorem Kp.grow {H2 : Hp} (k : Kp ps H H') (g : Grow H ps ps') (k2 : Kp ps' H' H2) : Kp ps H H2 :=
  (Kp.trans (k.mono (us := ps ++ ps') fun b h => List.mem_append.mpr (.inl h)) (k2.mono fun b h => List.mem_append.mpr (.inr h))).dropAll fun b h => by
    rcases List.mem_append.mp h with h | h
    · exact .inl h
    · exact g b h
theorem TiX.known (x : TiX C H t lv nd dx rep ever liv nb) : ∀ b ∈ t :: lv :: nd :: rep.map (·.2), ∃ u, H b = some u := fun b hb => by
  rcases List.mem_cons.mp hb with rfl | hb
  · exact ⟨_, x.ht⟩
  rcases List.mem_cons.mp hb with rfl | hb
  · exact ⟨_, x.hl⟩
  rcases List.mem_cons.mp hb with rfl | hb
  · exact ⟨_, x.hn⟩
  obtain ⟨p, hp, rfl⟩ := List.mem_map.mp hb
  exact ⟨_, x.hr p hp⟩
theorem TiesAt.known (x : TiesAt C H t ps ever liv ks nb) : ∀ b ∈ ps, ∃ u, H b = some u := by
  obtain ⟨lv, nd, dx, rep, h, rfl, rfl⟩ := x
  exact h.known
theorem TiX.kp (x : TiX C H t lv nd dx rep ever liv nb) (k : Kp ws H H') (n : ∀ b ∈ t :: lv :: nd :: rep.map (·.2), b ∉ ws) : TiX C H' t lv nd dx rep ever liv nb :=
  ⟨k.at_ _ _ x.ht (n _ (by simp)), k.at_ _ _ x.hl (n _ (by simp)), k.at_ _ _ x.hn (n _ (by simp)), fun p hp => k.at_ _ _ (x.hr p hp) (n _ (by simp only [List.mem_cons]; exact .inr (.inr (.inr (List.mem_map.mpr ⟨p, hp, rfl⟩))))), x.ad, x.nk⟩
theorem TiesAt.kp (x : TiesAt C H t ps ever liv ks nb) (k : Kp ws H H') (n : ∀ b ∈ ps, b ∉ ws) : TiesAt C H' t ps ever liv ks nb := by
  obtain ⟨lv, nd, dx, rep, h, rfl, rfl⟩ := x
  exact ⟨lv, nd, dx, rep, h.kp k n, rfl, rfl⟩
theorem TiesAt.kp0 (x : TiesAt C H t ps ever liv ks nb) (k : Kp [] H H') : TiesAt C H' t ps ever liv ks nb := x.kp k fun _ _ z => nomatch z
/-- what is not its own stays apart from it -/
theorem TiesAt.fr {p : Addr} (x : TiesAt C H t ps ever liv ks nb) (f : Fr H p) : p ∉ ps := fun z => by
  obtain ⟨u, e⟩ := x.known p z
  rw [f.e] at e
  cases e
theorem TiesAt.apart (x : TiesAt C H t ps ever liv ks nb) {p : Addr} (n : p ∉ ps) : ∀ b ∈ ps, b ∉ [p] := fun b hb z => by
  rw [List.mem_singleton.mp z] at hb
  exact n hb
theorem val_rep {w : Int} {a : Addr} : ∀ {rep : List (Int × Addr)}, (rep.map (·.1)).Nodup → (w, a) ∈ rep → valV (rep.map kA) (.inl w) = some (.ref a)
  | p :: rep, n, h => by
    rw [List.map_cons, List.nodup_cons] at n
    rcases List.mem_cons.mp h with e | h
    · rw [← e, List.map_cons]
      exact valV_pos rfl
    · rw [List.map_cons, valV_neg (fun z => ?_)]
      · exact val_rep n.2 h
      · have z : (Sum.inl p.1 : Key) = .inl w := z
        injection z with z
        exact n.1 (by rw [z]; exact List.mem_map.mpr ⟨_, h, rfl⟩)
theorem val_none {w : Int} : ∀ {rep : List (Int × Addr)}, w ∉ rep.map (·.1) → valV (rep.map kA) (.inl w) = none
  | [], _ => rfl
  | p :: rep, h => by
    rw [List.map_cons, List.mem_cons, not_or] at h
    rw [List.map_cons, valV_neg (fun z => ?_)]
    · exact val_none h.2
    · have z : (Sum.inl p.1 : Key) = .inl w := z
      injection z with z
      exact h.1 z.symm
theorem val_in {w : Int} {rep : List (Int × Addr)} (n : (rep.map (·.1)).Nodup) : (valV (rep.map kA) (.inl w)).isSome = decide (w ∈ rep.map (·.1)) := by
  by_cases c : w ∈ rep.map (·.1)
  · obtain ⟨p, hp, rfl⟩ := List.mem_map.mp c
    rw [val_rep (w := p.1) (a := p.2) n hp, decide_eq_true c]
    rfl
  · rw [val_none c, decide_eq_false c]
    rfl
theorem put_new {w : Int} {a : Addr} {rep : List (Int × Addr)} (h : w ∉ rep.map (·.1)) : putK (rep.map kA) (.inl w) (.ref a) = (rep ++ [(w, a)]).map kA := by
  rw [putK_new _ (val_none h), List.map_append]
  rfl
theorem drop_rep {w : Int} : ∀ (rep : List (Int × Addr)), dropK (rep.map kA) (.inl w) = (rep.filter fun p => decide (p.1 ≠ w)).map kA
  | [] => rfl
  | p :: rep => by
    have ih := drop_rep (w := w) rep
    unfold dropK at ih ⊢
    rw [List.map_cons, List.filter_cons, List.filter_cons, ih]
    by_cases c : p.1 = w
    · have c' : (kA p).1 = .inl w := by show (Sum.inl p.1 : Key) = _; rw [c]
      rw [if_neg (by simpa using c'), if_neg (by simpa using c)]
    · have c' : ¬ (kA p).1 = .inl w := fun z => by
        have z : (Sum.inl p.1 : Key) = .inl w := z
        injection z with z
        exact c z
      rw [if_pos (by simpa using c'), if_pos (by simpa using c)]
      rfl
theorem keys_drop {w : Int} {rep : List (Int × Addr)} (n : (rep.map (·.1)).Nodup) : (rep.filter fun p => decide (p.1 ≠ w)).map (·.1) = (rep.map (·.1)).erase w := by
  rw [n.erase_eq_filter, List.filter_map]
  congr 1
  refine List.filter_congr fun p _ => ?_
  show decide (p.1 ≠ w) = (p.1 != w)
  by_cases c : p.1 = w <;> simp [c]
end
theorem TiesAt.ins {C : Addr} {H : Hp} {t : Addr} {ps : List Addr} {ever : Int} {liv ks : List Int} {nb : Int → List Int} (x : TiesAt C H t ps ever liv ks nb) : ∃ dx lv nd, H t = some (.ins C dx (tfs ever lv nd)) := by
  obtain ⟨lv, nd, dx, rep, h, rfl, rfl⟩ := x
  exact ⟨_, _, _, h.ht⟩
def sp_tinit (C : Addr) : Sp := fun vs H Q _ => ∃ (t dx : Addr), vs = [.ref t] ∧ H t = some (.ins C dx []) ∧
  ∀ ps H', Kp [t] H H' → Grow H [t] ps → TiesAt C H' t ps 1 [0] [0] (fun _ => []) → Q .non H'
def Disp1 (p : Addr) (n : Int) (Q : VK) (v : V) (H2 : Hp) : Prop := H2 p = some (.dK []) ∧ ∃ kvs : List (Key × V), [(V.int n, v)] = kvs.map (fun kv => (kV kv.1, kv.2)) ∧ kvs.length ≤ 15 ∧ Q (.ref p) (upd H2 p (.dK (mergeK [] kvs)))
theorem i_disp1 {σ : L2.St} {H : Hp} {Q : VK} {n : Int} {te : TE} (q : ∀ p, Fr H p → te σ (upd H p (.dK [])) fun v H2 => Disp1 p n Q v H2) : tDisp [(tC (.int n), te)] σ H Q := fun p hp => q p ⟨hp⟩
theorem i_disp1e {H2 : Hp} {Q : VK} {n : Int} {p : Addr} {v : V} (h : H2 p = some (.dK [])) (q : Q (.ref p) (upd H2 p (.dK [(.inl n, v)]))) : Disp1 p n Q v H2 := ⟨h, [(.inl n, v)], rfl, by rw [List.length_singleton]; decide, q⟩
theorem sc_Ties_init : FnScope ["self"] ["self"] (defScope s_Ties_init) :=
  ⟨rfl, rfl, rfl, by decide +kernel, rfl, by decide +kernel, by decide +kernel⟩
theorem ok_Ties_init {P : Program} {w : World} {K : PySem.W.Frag} {mg : Str → Option Value} {base : Heap} (T : Txt K mg) :
    FnG P w K mg base 1 T.a_Ties_init T.d_Ties_init ["self"] (sp_tinit T.c_Ties) := by
  refine okD T.F_Ties_init sc_Ties_init (fun vs H Q E h => ?_) (fun cdv A outer s H vs Q E hr h => ?_)
  · first
      | (obtain ⟨_, rfl, _⟩ := h; rfl)
      | (obtain ⟨_, _, rfl, _⟩ := h; rfl)
      | (obtain ⟨_, _, _, rfl, _⟩ := h; rfl)
      | (obtain ⟨_, _, _, _, rfl, _⟩ := h; rfl)
      | (obtain ⟨_, _, _, _, _, rfl, _⟩ := h; rfl)
      | (obtain ⟨_, _, _, _, _, _, rfl, _⟩ := h; rfl)
      | (obtain ⟨_, _, _, _, _, _, _, rfl, _⟩ := h; rfl)
      | (obtain ⟨_, _, _, _, _, _, _, _, rfl, _⟩ := h; rfl)
      | (obtain ⟨_, _, _, _, _, _, _, _, _, rfl, _⟩ := h; rfl)
      | (obtain ⟨_, _, _, _, _, _, _, _, _, _, rfl, _⟩ := h; rfl)
      | (obtain ⟨_, _, _, _, _, _, _, _, _, _, _, rfl, _⟩ := h; rfl)
      | (obtain ⟨_, _, _, _, _, _, _, _, _, _, _, _, rfl, _⟩ := h; rfl)
      | (obtain ⟨_, _, _, _, _, _, _, _, _, _, _, _, _, rfl, _⟩ := h; rfl)
      | (obtain ⟨_, _, _, _, _, _, _, _, _, _, _, _, _, _, rfl, _⟩ := h; rfl)
      | (obtain ⟨_, _, _, _, _, _, _, _, _, _, _, _, _, _, _, rfl, _⟩ := h; rfl)
      | (obtain ⟨_, _, _, _, _, _, _, _, _, _, _, _, _, _, _, _, rfl, _⟩ := h; rfl)
      | (obtain ⟨_, _, _, _, _, _, _, _, _, _, _, _, _, _, _, _, _, rfl, _⟩ := h; rfl)
      | (obtain ⟨_, _, _, _, _, _, _, _, _, _, _, _, _, _, _, _, _, _, rfl, _⟩ := h; rfl)
      | (obtain ⟨_, _, _, _, _, _, _, _, _, _, _, _, _, _, _, _, _, _, _, rfl, _⟩ := h; rfl)
  · obtain ⟨t, dx, rfl, ht, k⟩ := h
    have cl_Ties := T.cl_Ties
    have na_Ties_near := T.na_Ties_near
    have na_Ties_own_ever := T.na_Ties_own_ever
    have na_Ties_own_living := T.na_Ties_own_living
    refine ⟨_, (pss_cons (k_sfld (K := K) rfl (pv 0) pe_int rfl)
      (pss_cons (k_sfld (K := K) rfl (pv 0) (pe_lst (pa_cons pe_int pa_nil)) rfl)
      (pss_one (k_sfld (K := K) rfl (pv 0) (pe_disp (pps_cons pe_int (pe_lst pa_nil) pps_nil) (by rfl) (by rfl) (fun z => by cases z) (by decide)) rfl)))), ?_⟩
    dsimp only [cxOf, st_1, st_2, st_3, st_4, st_5, st_6, List.length_cons, List.length_nil, List.replicate_succ, List.replicate_zero, Nat.reduceAdd, Nat.reduceSub]
    walk_at "gs"
    refine i_new fun l fl => ?_
    have ntl : t ≠ l := fr_ne upd_same fl
    walk_at "gs"
    refine i_disp1 fun d fd => ?_
    have ntd : t ≠ d := fr_ne upd_same fd
    have nld : l ≠ d := fr_ne (by rw [upd_ne (Ne.symm ntl)]; exact upd_same) fd
    walk_at "gs"
    refine i_new fun m fm => ?_
    have ntm : t ≠ m := fr_ne (by walk_at "g_hp") fm
    have nlm : l ≠ m := fr_ne (by walk_at "g_hp") fm
    have ndm : d ≠ m := fr_ne upd_same fm
    walk_at "gs"
    refine i_disp1e (by walk_at "g_hp") ?_
    walk_at "gs"
    have ntl' := Ne.symm ntl
    have nlm' := Ne.symm nlm
    refine k [t, l, d, m] _ (by walk_at "g_kp") (fun b hb => ?_) ⟨l, d, dx, [(0, m)], ⟨upd_same, show _ = some (HO.lst [V.int 0]) by walk_at "g_hp", show _ = some (HO.dK [(Sum.inl 0, V.ref m)]) by walk_at "g_hp", fun p hp => ?_, ?_, by simp⟩, rfl, rfl⟩
    · simp only [List.mem_cons, List.not_mem_nil, or_false] at hb ⊢
      rcases hb with rfl | rfl | rfl | rfl
      · exact .inl rfl
      · exact .inr (by walk_at "g_fr")
      · exact .inr (by walk_at "g_fr")
      · exact .inr (by walk_at "g_fr")
    · rw [List.mem_singleton.mp hp]
      show _ = some (HO.lst [])
      walk_at "g_hp"
    · simp only [List.map_cons, List.map_nil, List.nodup_cons, List.mem_cons, List.not_mem_nil, or_false, not_or, not_false_iff, List.nodup_nil, and_true]
      exact ⟨⟨ntl, ntd, ntm⟩, ⟨nld, nlm⟩, ndm⟩
def sp_tever (C : Addr) : Sp := fun vs H Q _ => ∃ (t : Addr) (ps : List Addr) (ever : Int) (liv ks : List Int) (nb : Int → List Int), vs = [.ref t] ∧ TiesAt C H t ps ever liv ks nb ∧ Q (.int ever) H
theorem sc_Ties_ever : FnScope ["self"] ["self"] (defScope s_Ties_ever) :=
  ⟨rfl, rfl, rfl, by decide +kernel, rfl, by decide +kernel, by decide +kernel⟩
theorem ok_Ties_ever {P : Program} {w : World} {K : PySem.W.Frag} {mg : Str → Option Value} {base : Heap} (T : Txt K mg) :
    FnG P w K mg base 1 T.a_Ties_ever T.d_Ties_ever ["self"] (sp_tever T.c_Ties) := by
  refine okD T.F_Ties_ever sc_Ties_ever (fun vs H Q E h => ?_) (fun cdv A outer s H vs Q E hr h => ?_)
  · first
      | (obtain ⟨_, rfl, _⟩ := h; rfl)
      | (obtain ⟨_, _, rfl, _⟩ := h; rfl)
      | (obtain ⟨_, _, _, rfl, _⟩ := h; rfl)
      | (obtain ⟨_, _, _, _, rfl, _⟩ := h; rfl)
      | (obtain ⟨_, _, _, _, _, rfl, _⟩ := h; rfl)
      | (obtain ⟨_, _, _, _, _, _, rfl, _⟩ := h; rfl)
      | (obtain ⟨_, _, _, _, _, _, _, rfl, _⟩ := h; rfl)
      | (obtain ⟨_, _, _, _, _, _, _, _, rfl, _⟩ := h; rfl)
      | (obtain ⟨_, _, _, _, _, _, _, _, _, rfl, _⟩ := h; rfl)
      | (obtain ⟨_, _, _, _, _, _, _, _, _, _, rfl, _⟩ := h; rfl)
      | (obtain ⟨_, _, _, _, _, _, _, _, _, _, _, rfl, _⟩ := h; rfl)
      | (obtain ⟨_, _, _, _, _, _, _, _, _, _, _, _, rfl, _⟩ := h; rfl)
      | (obtain ⟨_, _, _, _, _, _, _, _, _, _, _, _, _, rfl, _⟩ := h; rfl)
      | (obtain ⟨_, _, _, _, _, _, _, _, _, _, _, _, _, _, rfl, _⟩ := h; rfl)
      | (obtain ⟨_, _, _, _, _, _, _, _, _, _, _, _, _, _, _, rfl, _⟩ := h; rfl)
      | (obtain ⟨_, _, _, _, _, _, _, _, _, _, _, _, _, _, _, _, rfl, _⟩ := h; rfl)
      | (obtain ⟨_, _, _, _, _, _, _, _, _, _, _, _, _, _, _, _, _, rfl, _⟩ := h; rfl)
      | (obtain ⟨_, _, _, _, _, _, _, _, _, _, _, _, _, _, _, _, _, _, rfl, _⟩ := h; rfl)
      | (obtain ⟨_, _, _, _, _, _, _, _, _, _, _, _, _, _, _, _, _, _, _, rfl, _⟩ := h; rfl)
  · obtain ⟨t, ps, ever, liv, ks, nb, rfl, ⟨lv, nd, dx, rep, x, rfl, rfl⟩, k⟩ := h
    obtain ⟨ht, hl, hn, hr, ad, nk⟩ := x
    have cl_Ties := T.cl_Ties
    have na_Ties_near := T.na_Ties_near
    have na_Ties_own_ever := T.na_Ties_own_ever
    have na_Ties_own_living := T.na_Ties_own_living
    refine ⟨_, (pss_one (ps_ret (k_fld (K := K) rfl (pv 0) rfl))), ?_⟩
    dsimp only [cxOf, st_1, st_2, st_3, st_4, st_5, st_6, List.length_cons, List.length_nil, List.replicate_succ, List.replicate_zero, Nat.reduceAdd, Nat.reduceSub]
    walk_at "gs"
    exact k
def sp_tliving (C : Addr) : Sp := fun vs H Q _ => ∃ (t : Addr) (ps : List Addr) (ever : Int) (liv ks : List Int) (nb : Int → List Int), vs = [.ref t] ∧ TiesAt C H t ps ever liv ks nb ∧ ∀ R, Fr H R → Q (.ref R) (upd H R (.lst (liv.map V.int)))
theorem sc_Ties_living : FnScope ["self"] ["self"] (defScope s_Ties_living) :=
  ⟨rfl, rfl, rfl, by decide +kernel, rfl, by decide +kernel, by decide +kernel⟩
theorem ok_Ties_living {P : Program} {w : World} {K : PySem.W.Frag} {mg : Str → Option Value} {base : Heap} (T : Txt K mg) :
    FnG P w K mg base 1 T.a_Ties_living T.d_Ties_living ["self"] (sp_tliving T.c_Ties) := by
  refine okD T.F_Ties_living sc_Ties_living (fun vs H Q E h => ?_) (fun cdv A outer s H vs Q E hr h => ?_)
  · first
      | (obtain ⟨_, rfl, _⟩ := h; rfl)
      | (obtain ⟨_, _, rfl, _⟩ := h; rfl)
      | (obtain ⟨_, _, _, rfl, _⟩ := h; rfl)
      | (obtain ⟨_, _, _, _, rfl, _⟩ := h; rfl)
      | (obtain ⟨_, _, _, _, _, rfl, _⟩ := h; rfl)
      | (obtain ⟨_, _, _, _, _, _, rfl, _⟩ := h; rfl)
      | (obtain ⟨_, _, _, _, _, _, _, rfl, _⟩ := h; rfl)
      | (obtain ⟨_, _, _, _, _, _, _, _, rfl, _⟩ := h; rfl)
      | (obtain ⟨_, _, _, _, _, _, _, _, _, rfl, _⟩ := h; rfl)
      | (obtain ⟨_, _, _, _, _, _, _, _, _, _, rfl, _⟩ := h; rfl)
      | (obtain ⟨_, _, _, _, _, _, _, _, _, _, _, rfl, _⟩ := h; rfl)
      | (obtain ⟨_, _, _, _, _, _, _, _, _, _, _, _, rfl, _⟩ := h; rfl)
      | (obtain ⟨_, _, _, _, _, _, _, _, _, _, _, _, _, rfl, _⟩ := h; rfl)
      | (obtain ⟨_, _, _, _, _, _, _, _, _, _, _, _, _, _, rfl, _⟩ := h; rfl)
      | (obtain ⟨_, _, _, _, _, _, _, _, _, _, _, _, _, _, _, rfl, _⟩ := h; rfl)
      | (obtain ⟨_, _, _, _, _, _, _, _, _, _, _, _, _, _, _, _, rfl, _⟩ := h; rfl)
      | (obtain ⟨_, _, _, _, _, _, _, _, _, _, _, _, _, _, _, _, _, rfl, _⟩ := h; rfl)
      | (obtain ⟨_, _, _, _, _, _, _, _, _, _, _, _, _, _, _, _, _, _, rfl, _⟩ := h; rfl)
      | (obtain ⟨_, _, _, _, _, _, _, _, _, _, _, _, _, _, _, _, _, _, _, rfl, _⟩ := h; rfl)
  · obtain ⟨t, ps, ever, liv, ks, nb, rfl, ⟨lv, nd, dx, rep, x, rfl, rfl⟩, k⟩ := h
    obtain ⟨ht, hl, hn, hr, ad, nk⟩ := x
    have cl_Ties := T.cl_Ties
    have na_Ties_near := T.na_Ties_near
    have na_Ties_own_ever := T.na_Ties_own_ever
    have na_Ties_own_living := T.na_Ties_own_living
    refine ⟨_, (pss_one (ps_ret (pe_callTy (k_list (K := K) rfl) (by rfl) T.n_list (by decide +kernel) (pa_cons (k_fld (K := K) rfl (pv 0) rfl) pa_nil)))), ?_⟩
    dsimp only [cxOf, st_1, st_2, st_3, st_4, st_5, st_6, List.length_cons, List.length_nil, List.replicate_succ, List.replicate_zero, Nat.reduceAdd, Nat.reduceSub]
    walk_at "gs"
    refine i_new fun R fR => ?_
    walk_at "gs"
    exact k R fR
def FreeOf (liv ks fs : List Int) : Prop := fs.Pairwise (· < ·) ∧ ∀ x, x ∈ fs ↔ x ∈ ks ∧ x ∉ liv
def sp_tfree (C : Addr) : Sp := fun vs H Q _ => ∃ (t : Addr) (ps : List Addr) (ever : Int) (liv ks : List Int) (nb : Int → List Int), vs = [.ref t] ∧ TiesAt C H t ps ever liv ks nb ∧ ks.length ≤ 1000 ∧
  ∀ R fs H', Fr H R → Kp [] H H' → H' R = some (.lst (fs.map V.int)) → FreeOf liv ks fs → Q (.ref R) H'
theorem sc_Ties_free : FnScope ["self", "world"] ["self"] (defScope s_Ties_free) :=
  ⟨rfl, rfl, rfl, by decide +kernel, rfl, by decide +kernel, by decide +kernel⟩
theorem ok_Ties_free {P : Program} {w : World} {K : PySem.W.Frag} {mg : Str → Option Value} {base : Heap} (T : Txt K mg) :
    FnG P w K mg base 1 T.a_Ties_free T.d_Ties_free ["self"] (sp_tfree T.c_Ties) := by
  refine okD T.F_Ties_free sc_Ties_free (fun vs H Q E h => ?_) (fun cdv A outer s H vs Q E hr h => ?_)
  · first
      | (obtain ⟨_, rfl, _⟩ := h; rfl)
      | (obtain ⟨_, _, rfl, _⟩ := h; rfl)
      | (obtain ⟨_, _, _, rfl, _⟩ := h; rfl)
      | (obtain ⟨_, _, _, _, rfl, _⟩ := h; rfl)
      | (obtain ⟨_, _, _, _, _, rfl, _⟩ := h; rfl)
      | (obtain ⟨_, _, _, _, _, _, rfl, _⟩ := h; rfl)
      | (obtain ⟨_, _, _, _, _, _, _, rfl, _⟩ := h; rfl)
      | (obtain ⟨_, _, _, _, _, _, _, _, rfl, _⟩ := h; rfl)
      | (obtain ⟨_, _, _, _, _, _, _, _, _, rfl, _⟩ := h; rfl)
      | (obtain ⟨_, _, _, _, _, _, _, _, _, _, rfl, _⟩ := h; rfl)
      | (obtain ⟨_, _, _, _, _, _, _, _, _, _, _, rfl, _⟩ := h; rfl)
      | (obtain ⟨_, _, _, _, _, _, _, _, _, _, _, _, rfl, _⟩ := h; rfl)
      | (obtain ⟨_, _, _, _, _, _, _, _, _, _, _, _, _, rfl, _⟩ := h; rfl)
      | (obtain ⟨_, _, _, _, _, _, _, _, _, _, _, _, _, _, rfl, _⟩ := h; rfl)
      | (obtain ⟨_, _, _, _, _, _, _, _, _, _, _, _, _, _, _, rfl, _⟩ := h; rfl)
      | (obtain ⟨_, _, _, _, _, _, _, _, _, _, _, _, _, _, _, _, rfl, _⟩ := h; rfl)
      | (obtain ⟨_, _, _, _, _, _, _, _, _, _, _, _, _, _, _, _, _, rfl, _⟩ := h; rfl)
      | (obtain ⟨_, _, _, _, _, _, _, _, _, _, _, _, _, _, _, _, _, _, rfl, _⟩ := h; rfl)
      | (obtain ⟨_, _, _, _, _, _, _, _, _, _, _, _, _, _, _, _, _, _, _, rfl, _⟩ := h; rfl)
  · obtain ⟨t, ps, ever, liv, ks, nb, rfl, ⟨lv, nd, dx, rep, x, rfl, rfl⟩, kl, k⟩ := h
    have nds := x.ad
    simp only [List.nodup_cons, List.mem_cons, not_or] at nds
    obtain ⟨⟨ntl, ntd, _⟩, ⟨nld, _⟩, _⟩ := nds
    obtain ⟨ht, hl, hn, hr, ad, nk⟩ := x
    have cl_Ties := T.cl_Ties
    have na_Ties_near := T.na_Ties_near
    have na_Ties_own_ever := T.na_Ties_own_ever
    have na_Ties_own_living := T.na_Ties_own_living
    refine ⟨_, (pss_one (ps_ret (pe_callB (k_sorted (K := K) rfl) (by rfl) T.n_sorted (by decide +kernel) (pa_cons (pe_lock (pe_lc (own := [("world", 1)]) (g := (gName 1)) rfl sc_Ties_free.nd (pi_keys (k_fld (K := K) rfl (pv 0) rfl)) (blkOk_by (own := [("world", 1)]) (N := ["self", "world"]) (sc := defScope s_Ties_free) (by decide +kernel)) (fun _ _ _ _ _ => (pg_name (i := 1) sc_Ties_free.nd rfl (Or.inl rfl))) (fun _ _ _ _ _ => (pts_one (pt_cmpR (k_nin (K := K) rfl) (pv 1) (k_fld (K := K) rfl (pv 0) rfl) (rfl)))) (fun _ _ _ _ _ => (pv 1)))) pa_nil)))), ?_⟩
    dsimp only [cxOf, st_1, st_2, st_3, st_4, st_5, st_6, List.length_cons, List.length_nil, List.replicate_succ, List.replicate_zero, Nat.reduceAdd, Nat.reduceSub]
    walk_at "gs"
    refine i_lockE hn fun od => ?_
    walk_at "gs"
    have kd : Kp [] H (upd (upd H nd (.frz od (.dK (rep.map kA)))) nd (.dK (rep.map kA))) := kp_unl hn (fun z => z) Kp.refl
    refine i_keyG (o := od) upd_same (fun R i H' => Kp [] (upd H nd (.frz od (.dK (rep.map kA)))) H' ∧ H' R = some (.lst ((((rep.take i).map (·.1)).filter fun w => decide (w ∉ liv)).map V.int))) ?_ ?_ ?_ ?_
    · intro R fR
      exact ⟨Kp.new fR, upd_same⟩
    · rintro R i H' fR ⟨k1, _⟩
      exact k1.at_ _ _ upd_same not_nil
    · rintro R i ky v H' fR hk ⟨k1, hR⟩
      obtain ⟨p, hp, e⟩ := map_get hk
      cases e
      have hl1 : SqL K H' lv (liv.map V.int) := SqL.of (k1.at_ _ _ (by rw [upd_ne nld]; exact hl) not_nil)
      have ht1 : H' t = some (.ins T.c_Ties dx (tfs ever lv nd)) := k1.at_ _ _ (by rw [upd_ne ntd]; exact ht) not_nil
      have hil := (List.getElem?_eq_some_iff.mp hp).1
      have step : (((rep.take (i + 1)).map (·.1)).filter fun w => decide (w ∉ liv)) = (((rep.take i).map (·.1)).filter fun w => decide (w ∉ liv)) ++ (if p.1 ∉ liv then [p.1] else []) := by
        rw [List.take_add_one, hp, List.map_append, List.filter_append]
        congr 1
        by_cases c : p.1 ∉ liv <;> simp [c]
      show gName 1 (.int p.1) _ _ _
      walk_at "gs"
      refine i_bool2 (fun c => ?_) (fun c => ?_)
      · walk_at "gs"
        refine ⟨_, hR, small_sz ?_, Kp.upd k1 fR, ?_⟩
        · rw [List.length_map]
          have e1 := List.length_filter_le (fun w => decide (w ∉ liv)) ((rep.take i).map (·.1))
          rw [List.length_map, List.length_take] at e1
          rw [List.length_map] at kl
          omega
        · have c' : p.1 ∉ liv := by simpa using c
          rw [step, if_pos c', List.map_append]
          exact upd_same
      · refine ⟨k1, ?_⟩
        have c' : ¬ p.1 ∉ liv := by simpa using c
        rw [step, if_neg c', List.append_nil]
        exact hR
    rintro R H' fR ⟨k1, hR⟩
    rw [List.length_map, List.take_length] at hR
    have fR' : Fr H R := by walk_at "g_fr"
    have nRd : R ≠ nd := Ne.symm (fr_ne hn fR')
    have k0 : Kp [] H (upd H' nd (.dK (rep.map kA))) := kp_unl hn (fun z => z) k1
    refine ⟨k1.at_ _ _ upd_same not_nil, ?_⟩
    walk_at "gs"
    refine i_sorted (SqL.of (by rw [upd_ne nRd]; exact hR)) fun fs p pm ps fp => ?_
    have fp0 : Fr H p := k0.free fp
    refine k p fs _ fp0 (Kp.upd k0 fp0) upd_same ⟨strict_of pm (nk.filter _) ps, fun y => ?_⟩
    rw [pm.mem_iff, List.mem_filter, decide_eq_true_eq]

/-! ### rows -/
def rwOf (nb : Int → List Int) (u : Int) : List (Int × Int) := ((nb u).filter fun v => decide (u < v)).map fun v => (u, v)
def rws (nb : Int → List Int) (ks : List Int) : List (Int × Int) := ks.flatMap (rwOf nb)
def RowsOf (ks : List Int) (nb : Int → List Int) (rs : List (Int × Int)) : Prop := rs.Pairwise ltQ ∧ ∀ q, q ∈ rs ↔ q.1 ∈ ks ∧ q.2 ∈ nb q.1 ∧ q.1 < q.2
section
variable {ks : List Int} {nb : Int → List Int}
theorem mem_rwOf {u : Int} {q : Int × Int} : q ∈ rwOf nb u ↔ q.1 = u ∧ q.2 ∈ nb u ∧ u < q.2 := by
  unfold rwOf
  rw [List.mem_map]
  constructor
  · rintro ⟨v, h, rfl⟩
    rw [List.mem_filter, decide_eq_true_eq] at h
    exact ⟨rfl, h⟩
  · rintro ⟨a, b, c⟩
    refine ⟨q.2, List.mem_filter.mpr ⟨b, decide_eq_true c⟩, ?_⟩
    rw [← a]
theorem mem_rws {q : Int × Int} : q ∈ rws nb ks ↔ q.1 ∈ ks ∧ q.2 ∈ nb q.1 ∧ q.1 < q.2 := by
  unfold rws
  rw [List.mem_flatMap]
  constructor
  · rintro ⟨u, hu, h⟩
    obtain ⟨a, b, c⟩ := mem_rwOf.mp h
    rw [a]
    exact ⟨hu, b, c⟩
  · rintro ⟨a, b, c⟩
    exact ⟨q.1, a, mem_rwOf.mpr ⟨rfl, b, c⟩⟩
theorem rws_nd (nk : ks.Nodup) (nd : ∀ u ∈ ks, (nb u).Nodup) : (rws nb ks).Nodup := by
  unfold rws
  refine List.pairwise_flatMap.mpr ⟨fun u hu => ?_, nk.imp fun {a b} n x hx y hy e => ?_⟩
  · refine List.pairwise_map.mpr (((nd u hu).filter _).imp fun {a b} n e => ?_)
    injection e with _ e
    exact n e
  · rw [← (mem_rwOf.mp hx).1, ← (mem_rwOf.mp hy).1, e] at n
    exact n rfl
theorem rws_len {n : Nat} : ∀ {ks : List Int}, (∀ u ∈ ks, (nb u).length ≤ n) → (rws nb ks).length ≤ ks.length * n
  | [], _ => by simp [rws]
  | u :: ks, h => by
    have ih := rws_len (ks := ks) fun v hv => h v (List.mem_cons_of_mem _ hv)
    have h1 := h u List.mem_cons_self
    have h2 := List.length_filter_le (fun v => decide (u < v)) (nb u)
    unfold rws at ih ⊢
    rw [List.flatMap_cons, List.length_append, List.length_cons, Nat.succ_mul]
    unfold rwOf at ih ⊢
    rw [List.length_map]
    omega
theorem rws_step {u : Int} {l : List Int} {i : Nat} (h : ks[i]? = some u) : rws nb (ks.take (i + 1)) = rws nb (ks.take i) ++ rwOf nb u := by
  unfold rws
  rw [List.take_add_one, h, List.flatMap_append]
  simp
theorem kp_set {H : Hp} {d : Addr} {u v : HO} (h : H d = some u) (nu : ¬ Fix u) : Kp [d] H (upd H d v) := Kp.mut h nu (List.mem_singleton.mpr rfl)
end
theorem PrsAt.unl {H : Hp} {d : Addr} {o : Obj} {u v : HO} (h : H d = some (.frz o u)) : ∀ {xs : List V} {ps : List (Int × Int)}, PrsAt H xs ps → PrsAt (upd H d v) xs ps
  | [], [], _ => trivial
  | _ :: _, _ :: _, ⟨⟨t, e, q⟩, r⟩ => ⟨⟨t, e, by
      have n : t ≠ d := fun z => by
        rw [z, h] at q
        cases q
      rw [upd_ne n]
      exact q⟩, PrsAt.unl h r⟩
  | [], _ :: _, h => h.elim
  | _ :: _, [], h => h.elim
def sp_trows (K : PySem.W.Frag) (C : Addr) : Sp := fun vs H Q _ => ∃ (D : Int → Int → Int) (t : Addr) (ps : List Addr) (ever : Int) (liv ks : List Int) (nb : Int → List Int), vs = [.ref t] ∧ TiesAt C H t ps ever liv ks nb ∧ Tr3 D ever liv ks nb ∧ ever ≤ 200 ∧
  ∀ R rs H', Fr H R → Kp [] H H' → LD K H' R (rs.map d2) → RowsOf ks nb rs → Q (.ref R) H'
theorem sc_Ties_rows : FnScope ["self", "low", "others", "high"] ["self"] (defScope s_Ties_rows) :=
  ⟨rfl, rfl, rfl, by decide +kernel, rfl, by decide +kernel, by decide +kernel⟩
theorem ok_Ties_rows {P : Program} {w : World} {K : PySem.W.Frag} {mg : Str → Option Value} {base : Heap} (T : Txt K mg) :
    FnG P w K mg base 1 T.a_Ties_rows T.d_Ties_rows ["self"] (sp_trows K T.c_Ties) := by
  refine okD T.F_Ties_rows sc_Ties_rows (fun vs H Q E h => ?_) (fun cdv A outer s H vs Q E hr h => ?_)
  · first
      | (obtain ⟨_, rfl, _⟩ := h; rfl)
      | (obtain ⟨_, _, rfl, _⟩ := h; rfl)
      | (obtain ⟨_, _, _, rfl, _⟩ := h; rfl)
      | (obtain ⟨_, _, _, _, rfl, _⟩ := h; rfl)
      | (obtain ⟨_, _, _, _, _, rfl, _⟩ := h; rfl)
      | (obtain ⟨_, _, _, _, _, _, rfl, _⟩ := h; rfl)
      | (obtain ⟨_, _, _, _, _, _, _, rfl, _⟩ := h; rfl)
      | (obtain ⟨_, _, _, _, _, _, _, _, rfl, _⟩ := h; rfl)
      | (obtain ⟨_, _, _, _, _, _, _, _, _, rfl, _⟩ := h; rfl)
      | (obtain ⟨_, _, _, _, _, _, _, _, _, _, rfl, _⟩ := h; rfl)
      | (obtain ⟨_, _, _, _, _, _, _, _, _, _, _, rfl, _⟩ := h; rfl)
      | (obtain ⟨_, _, _, _, _, _, _, _, _, _, _, _, rfl, _⟩ := h; rfl)
      | (obtain ⟨_, _, _, _, _, _, _, _, _, _, _, _, _, rfl, _⟩ := h; rfl)
      | (obtain ⟨_, _, _, _, _, _, _, _, _, _, _, _, _, _, rfl, _⟩ := h; rfl)
      | (obtain ⟨_, _, _, _, _, _, _, _, _, _, _, _, _, _, _, rfl, _⟩ := h; rfl)
      | (obtain ⟨_, _, _, _, _, _, _, _, _, _, _, _, _, _, _, _, rfl, _⟩ := h; rfl)
      | (obtain ⟨_, _, _, _, _, _, _, _, _, _, _, _, _, _, _, _, _, rfl, _⟩ := h; rfl)
      | (obtain ⟨_, _, _, _, _, _, _, _, _, _, _, _, _, _, _, _, _, _, rfl, _⟩ := h; rfl)
      | (obtain ⟨_, _, _, _, _, _, _, _, _, _, _, _, _, _, _, _, _, _, _, rfl, _⟩ := h; rfl)
  · obtain ⟨D, t, ps, ever, liv, ks, nb, rfl, ⟨lv, nd, dx, rep, x, rfl, rfl⟩, z, he, k⟩ := h
    have klen := z.klen
    have nds := x.ad
    simp only [List.nodup_cons, List.mem_cons, not_or] at nds
    obtain ⟨⟨ntl, ntd, _⟩, ⟨nld, _⟩, ndr, _⟩ := nds
    obtain ⟨ht, hl, hn, hr, ad, nk⟩ := x
    have ndp : ∀ p ∈ rep, p.2 ≠ nd := fun p hp e => ndr (List.mem_map.mpr ⟨p, hp, e⟩)
    rw [List.length_map] at klen
    have cl_Ties := T.cl_Ties
    have na_Ties_near := T.na_Ties_near
    have na_Ties_own_ever := T.na_Ties_own_ever
    have na_Ties_own_living := T.na_Ties_own_living
    refine ⟨_, (pss_one (ps_ret (pe_callB (k_sortedP (K := K) rfl) (by rfl) T.n_sorted (by decide +kernel) (pa_cons (pe_lock (pe_lc2 (own := [("low", 1), ("others", 2), ("high", 3)]) (vs1 := [3]) (g := (gTup K 2 (gCons (gName 1) (gCons (gName 2) gNil)))) (g1 := (gName 3)) (tt := tYes) rfl sc_Ties_rows.nd (pi_items (k_fld (K := K) rfl (pv 0) rfl)) (blkOk_by (own := [("low", 1), ("others", 2), ("high", 3)]) (N := ["self", "low", "others", "high"]) (sc := defScope s_Ties_rows) (by decide +kernel)) (by decide) (fun _ _ _ _ _ => (k_gtup (K := K) 2 rfl rfl (pgs_cons (pg_name (i := 1) sc_Ties_rows.nd rfl (Or.inl rfl)) (pgs_cons (pg_name (i := 2) sc_Ties_rows.nd rfl (Or.inl rfl)) pgs_nil)))) (fun _ _ _ _ _ => pts_nil) (fun _ _ _ _ _ => (k_plist (K := K) rfl (pv 2))) (fun _ _ _ _ _ => (pg_name (i := 3) sc_Ties_rows.nd rfl (Or.inl rfl))) (fun _ _ _ _ _ => (pts_one (pt_cmpR op_lt (pv 1) (pv 3) (nomark _)))) (fun _ _ _ _ _ => (pe_tup (pa_cons (pv 1) (pa_cons (pv 3) pa_nil)))))) pa_nil)))), ?_⟩
    dsimp only [cxOf, st_1, st_2, st_3, st_4, st_5, st_6, List.length_cons, List.length_nil, List.replicate_succ, List.replicate_zero, Nat.reduceAdd, Nat.reduceSub]
    walk_at "gs"
    refine i_lockE hn fun od => ?_
    walk_at "gs"
    refine i_itemG (o := od) upd_same (fun R i H' => Kp [] (upd H nd (.frz od (.dK (rep.map kA)))) H' ∧ ∃ xs, H' R = some (.lst xs) ∧ PrsAt H' xs (rws nb ((rep.map (·.1)).take i))) ?_ ?_ ?_ ?_
    · intro R fR
      exact ⟨Kp.new fR, [], upd_same, trivial⟩
    · rintro R i H' fR ⟨k1, _⟩
      exact k1.at_ _ _ upd_same not_nil
    · rintro R i ky v U H' fR hk ⟨k1, xs, hR, px⟩ fU
      obtain ⟨p, hp, e⟩ := map_get hk
      cases e
      have hpm : p ∈ rep := List.mem_of_getElem? hp
      have hik : (rep.map (·.1))[i]? = some p.1 := by rw [List.getElem?_map, hp]; rfl
      have hpk : p.1 ∈ rep.map (·.1) := List.mem_of_getElem? hik
      have hub := z.nlen hpk
      have hil := (List.getElem?_eq_some_iff.mp hp).1
      have hpa : H' p.2 = some (.lst ((nb p.1).map V.int)) := k1.at_ _ _ (by rw [upd_ne (ndp p hpm)]; exact hr p hpm) not_nil
      have kU : Kp [] H' (upd H' U (.tup [V.int p.1, V.ref p.2])) := Kp.new fU
      have hU : SqT K (upd H' U (.tup [V.int p.1, V.ref p.2])) U [V.int p.1, V.ref p.2] := SqT.of upd_same
      have hpa' := kU.at_ _ _ hpa not_nil
      have hR' := kU.at_ _ _ hR not_nil
      have px' := px.kp kU
      have k1' := Kp.trans k1 kU
      have hlen : (rws nb ((rep.map (·.1)).take i)).length ≤ 40000 := by
        have e := rws_len (nb := nb) (n := 200) (ks := (rep.map (·.1)).take i) fun u hu => by
          have := z.nlen (List.mem_of_mem_take hu)
          omega
        have e2 : ((rep.map (·.1)).take i).length ≤ 200 := by
          rw [List.length_take, List.length_map]
          omega
        have e3 := Nat.mul_le_mul_right 200 e2
        omega
      have hxl := px'.len
      show gTup K 2 _ (.ref U) _ (upd H' U (.tup [V.int p.1, V.ref p.2])) _
      walk_at "gs"
      refine i_in2L ?_
      walk_at "gs"
      refine i_inL (SqL.of hpa') (fun j H2 => Kp [] (upd H nd (.frz od (.dK (rep.map kA)))) H2 ∧ H2 p.2 = some (.lst ((nb p.1).map V.int)) ∧ ∃ xs, H2 R = some (.lst xs) ∧ PrsAt H2 xs (rws nb ((rep.map (·.1)).take i) ++ ((((nb p.1).take j).filter fun v => decide (p.1 < v)).map fun v => (p.1, v)))) ?_ ?_ ?_ ?_
      · refine ⟨k1', hpa', xs, hR', ?_⟩
        rw [List.take_zero, List.filter_nil, List.map_nil, List.append_nil]
        exact px'
      · rintro j H2 _ ⟨_, h, _⟩
        exact SqL.of h
      · rintro j y H2 hy ⟨k2, h2, ys, hys, py⟩
        obtain ⟨v, hv, e⟩ := map_get hy
        subst e
        have hyl := py.len
        rw [List.length_append, List.length_map] at hyl
        have hfl := List.length_filter_le (fun v => decide (p.1 < v)) ((nb p.1).take j)
        rw [List.length_take] at hfl
        have step : ∀ P : List (Int × Int), P ++ ((((nb p.1).take (j + 1)).filter fun v => decide (p.1 < v)).map fun v => (p.1, v)) = (P ++ ((((nb p.1).take j).filter fun v => decide (p.1 < v)).map fun v => (p.1, v))) ++ (if p.1 < v then [(p.1, v)] else []) := fun P => by
          rw [List.take_add_one, hv, List.filter_append, List.map_append, List.append_assoc]
          congr 2
          by_cases c : p.1 < v <;> simp [c]
        walk_at "gs"
        refine i_dec (fun c => ?_) (fun c => ?_)
        · walk_at "gs"
          refine i_new fun W fW => ?_
          have kW : Kp [] H2 (upd H2 W (.tup [V.int p.1, V.int v])) := Kp.new fW
          have hW := kW.at_ _ _ hys not_nil
          have kR : Kp [R] (upd H2 W (.tup [V.int p.1, V.int v])) (upd (upd H2 W (.tup [V.int p.1, V.int v])) R (.lst (ys ++ [V.ref W]))) := kp_set hW (fun z => z)
          have npR : p.2 ≠ R := fr_ne (by rw [upd_ne (ndp p hpm)]; exact hr p hpm) fR
          walk_at "gs"
          refine ⟨ys, hW, small_sz (by omega), Kp.upd (Kp.trans k2 kW) fR, ?_, ys ++ [.ref W], upd_same, ?_⟩
          · rw [upd_ne npR]
            exact kW.at_ _ _ h2 not_nil
          · rw [step, if_pos c]
            exact (PrsAt.snoc (q := (p.1, v)) upd_same (py.kp kW)).kp kR
        · refine ⟨k2, h2, ys, hys, ?_⟩
          rw [step, if_neg c, List.append_nil]
          exact py
      · rintro H2 ⟨k2, h2, ys, hys, py⟩
        rw [List.length_map, List.take_length] at py
        refine ⟨k2, ys, hys, ?_⟩
        rw [rws_step (l := []) hik]
        exact py
    rintro R H' fR ⟨k1, xs, hR, px⟩
    have fR' : Fr H R := by walk_at "g_fr"
    have nRd : R ≠ nd := Ne.symm (fr_ne hn fR')
    have hnd : H' nd = some (.frz od (.dK (rep.map kA))) := k1.at_ _ _ upd_same not_nil
    have k0 : Kp [] H (upd H' nd (.dK (rep.map kA))) := kp_unl hn (fun z => z) k1
    refine ⟨hnd, ?_⟩
    walk_at "gs"
    refine i_sortedP (by rw [upd_ne nRd]; exact hR) (px.unl hnd) ?_ fun rs p H2 fp k2 ld pm pw => ?_
    · rw [List.length_map, List.take_of_length_le (by rw [List.length_map]; exact Nat.le_refl _)]
      exact rws_nd nk z.rp.nd
    refine k p rs H2 (k0.free fp) (Kp.trans k0 k2) ld ⟨pw, fun q => ?_⟩
    rw [pm.mem_iff, List.length_map, List.take_of_length_le (by rw [List.length_map]; exact Nat.le_refl _), mem_rws]
/-! ### asked of anything -/
def cntD : PyData → Bool
  | .int n => decide (0 ≤ n)
  | _ => false
theorem cnt_no {d : PyData} (h : isI d = false) : cntD d = false := by
  cases d <;> first | rfl | (cases h)
theorem cnt_int {d : PyData} (h : cntD d = true) : ∃ n, d = .int n ∧ 0 ≤ n := by
  cases d <;> first | (cases h; done) | exact ⟨_, rfl, of_decide_eq_true h⟩
def sp_is_count (K : PySem.W.Frag) : Sp := fun vs H Q _ => ∃ (v : V) (d : PyData), vs = [v] ∧ Any K H v d ∧ Q (.bl (cntD d)) H
theorem sc_is_count : FnScope ["thing"] ["thing"] (defScope s_is_count) :=
  ⟨rfl, rfl, rfl, by decide +kernel, rfl, by decide +kernel, by decide +kernel⟩
theorem ok_is_count {P : Program} {w : World} {K : PySem.W.Frag} {mg : Str → Option Value} {base : Heap} (T : Txt K mg) :
    FnG P w K mg base 1 T.a_is_count T.d_is_count ["thing"] (sp_is_count K) := by
  refine okD T.F_is_count sc_is_count (fun vs H Q E h => ?_) (fun cdv A outer s H vs Q E hr h => ?_)
  · first
      | (obtain ⟨_, rfl, _⟩ := h; rfl)
      | (obtain ⟨_, _, rfl, _⟩ := h; rfl)
      | (obtain ⟨_, _, _, rfl, _⟩ := h; rfl)
      | (obtain ⟨_, _, _, _, rfl, _⟩ := h; rfl)
      | (obtain ⟨_, _, _, _, _, rfl, _⟩ := h; rfl)
      | (obtain ⟨_, _, _, _, _, _, rfl, _⟩ := h; rfl)
      | (obtain ⟨_, _, _, _, _, _, _, rfl, _⟩ := h; rfl)
      | (obtain ⟨_, _, _, _, _, _, _, _, rfl, _⟩ := h; rfl)
      | (obtain ⟨_, _, _, _, _, _, _, _, _, rfl, _⟩ := h; rfl)
      | (obtain ⟨_, _, _, _, _, _, _, _, _, _, rfl, _⟩ := h; rfl)
      | (obtain ⟨_, _, _, _, _, _, _, _, _, _, _, rfl, _⟩ := h; rfl)
      | (obtain ⟨_, _, _, _, _, _, _, _, _, _, _, _, rfl, _⟩ := h; rfl)
      | (obtain ⟨_, _, _, _, _, _, _, _, _, _, _, _, _, rfl, _⟩ := h; rfl)
      | (obtain ⟨_, _, _, _, _, _, _, _, _, _, _, _, _, _, rfl, _⟩ := h; rfl)
      | (obtain ⟨_, _, _, _, _, _, _, _, _, _, _, _, _, _, _, rfl, _⟩ := h; rfl)
      | (obtain ⟨_, _, _, _, _, _, _, _, _, _, _, _, _, _, _, _, rfl, _⟩ := h; rfl)
      | (obtain ⟨_, _, _, _, _, _, _, _, _, _, _, _, _, _, _, _, _, rfl, _⟩ := h; rfl)
      | (obtain ⟨_, _, _, _, _, _, _, _, _, _, _, _, _, _, _, _, _, _, rfl, _⟩ := h; rfl)
      | (obtain ⟨_, _, _, _, _, _, _, _, _, _, _, _, _, _, _, _, _, _, _, rfl, _⟩ := h; rfl)
  · obtain ⟨v, d, rfl, hd, k⟩ := h
    refine ⟨_, (pss_one (ps_ret (pe_and (pe_callB (k_isi (K := K) rfl) (by rfl) T.n_isinstance (by decide +kernel) (pa_cons (pv 0) (pa_cons (pe_bltn (v := .ty "int") (by rfl) T.n_int (by decide +kernel) rfl) pa_nil))) (pe_and (pe_not (pe_callB (k_isi (K := K) rfl) (by rfl) T.n_isinstance (by decide +kernel) (pa_cons (pv 0) (pa_cons (pe_bltn (v := .ty "bool") (by rfl) T.n_bool (by decide +kernel) rfl) pa_nil)))) (pe_one (pe_cmpR op_ge (pv 0) pe_int (nomark _))))))), ?_⟩
    dsimp only [cxOf, st_1, st_2, st_3, st_4, st_5, st_6, List.length_cons, List.length_nil, List.replicate_succ, List.replicate_zero, Nat.reduceAdd, Nat.reduceSub]
    walk_at "gs"
    refine i_isA hd (kit_int d) ?_
    walk_at "gs"
    refine i_bool2 (fun c => ?_) (fun c => ?_)
    · walk_at "gs"
      refine i_isA hd (kit_bool d) ?_
      walk_at "gs"
      refine i_bool2 (fun c2 => ?_) (fun c2 => ?_)
      · have e : isI d = true := by rw [isI_eq, c, c2]; rfl
        obtain ⟨n, rfl⟩ := isI_int e
        obtain rfl := hd.2 n rfl
        walk_at "gs"
        exact k
      · rw [cnt_no (by rw [isI_eq, c2, Bool.and_false])] at k
        exact k
    · rw [cnt_no (by rw [isI_eq, c, Bool.false_and])] at k
      exact k
def inL (l : List Int) : PyData → Bool
  | .int n => decide (0 ≤ n ∧ n ∈ l)
  | _ => false
theorem inL_no {l : List Int} {d : PyData} (h : cntD d = false) : inL l d = false := by
  cases d <;> first | rfl | exact decide_eq_false (fun z => absurd z.1 (of_decide_eq_false h))

/-! ### fork -/
def setN (nb : Int → List Int) (u : Int) (l : List Int) : Int → List Int := fun v => if v = u then l else nb v
section
variable {C : Addr} {H : Hp} {t lv nd dx : Addr} {rep : List (Int × Addr)} {ever : Int} {liv : List Int} {nb nb' : Int → List Int}
theorem TiX.congr (x : TiX C H t lv nd dx rep ever liv nb) (h : ∀ p ∈ rep, nb p.1 = nb' p.1) : TiX C H t lv nd dx rep ever liv nb' :=
  ⟨x.ht, x.hl, x.hn, fun p hp => by rw [← h p hp]; exact x.hr p hp, x.ad, x.nk⟩
theorem rep_fun {rep : List (Int × Addr)} (nk : (rep.map (·.1)).Nodup) {u : Int} {a b : Addr} (h : (u, a) ∈ rep) (k : (u, b) ∈ rep) : a = b := by
  have e1 := val_rep nk h
  have e2 := val_rep nk k
  rw [e1] at e2
  injection e2 with e2
  injection e2
theorem rep_inj {rep : List (Int × Addr)} (nk : (rep.map (·.2)).Nodup) {u v : Int} {a : Addr} (h : (u, a) ∈ rep) (k : (v, a) ∈ rep) : u = v := by
  induction rep with
  | nil => cases h
  | cons p rep ih =>
    rw [List.map_cons, List.nodup_cons] at nk
    rcases List.mem_cons.mp h with e | h
    · rcases List.mem_cons.mp k with e2 | k
      · rw [← e] at e2
        injection e2 with e2
        exact e2.symm
      · exact absurd (List.mem_map.mpr ⟨_, k, by rw [← e]⟩) nk.1
    · rcases List.mem_cons.mp k with e2 | k
      · exact absurd (List.mem_map.mpr ⟨_, h, by rw [← e2]⟩) nk.1
      · exact ih nk.2 h k
theorem TiX.parts (x : TiX C H t lv nd dx rep ever liv nb) : t ≠ lv ∧ t ≠ nd ∧ lv ≠ nd ∧ (rep.map (·.2)).Nodup ∧ ∀ p ∈ rep, p.2 ≠ t ∧ p.2 ≠ lv ∧ p.2 ≠ nd := by
  have h := x.ad
  simp only [List.nodup_cons, List.mem_cons, not_or] at h
  obtain ⟨⟨a, b, c⟩, ⟨d, e⟩, f, g⟩ := h
  exact ⟨a, b, d, g, fun p hp => ⟨fun z => c (List.mem_map.mpr ⟨p, hp, z⟩), fun z => e (List.mem_map.mpr ⟨p, hp, z⟩), fun z => f (List.mem_map.mpr ⟨p, hp, z⟩)⟩⟩
/-- what hangs at u is written anew -/
theorem TiX.put (x : TiX C H t lv nd dx rep ever liv nb) {u : Int} {a : Addr} (h : (u, a) ∈ rep) (l : List Int) : TiX C (upd H a (.lst (l.map V.int))) t lv nd dx rep ever liv (setN nb u l) := by
  obtain ⟨_, _, _, n4, n5⟩ := x.parts
  obtain ⟨m1, m2, m3⟩ := n5 _ h
  refine ⟨by rw [upd_ne (Ne.symm m1)]; exact x.ht, by rw [upd_ne (Ne.symm m2)]; exact x.hl, by rw [upd_ne (Ne.symm m3)]; exact x.hn, fun p hp => ?_, x.ad, x.nk⟩
  unfold setN
  by_cases c : p.1 = u
  · have e : p.2 = a := rep_fun x.nk (u := u) (by rw [← c]; exact hp) h
    rw [if_pos c, e]
    exact upd_same
  · have e : p.2 ≠ a := fun e => c (rep_inj n4 (a := a) (by rw [← e]; exact hp) h)
    rw [if_neg c, upd_ne e]
    exact x.hr p hp
theorem TiX.mem (x : TiX C H t lv nd dx rep ever liv nb) {u : Int} (h : u ∈ rep.map (·.1)) : ∃ a, (u, a) ∈ rep ∧ H a = some (.lst ((nb u).map V.int)) := by
  obtain ⟨p, hp, rfl⟩ := List.mem_map.mp h
  exact ⟨p.2, hp, x.hr p hp⟩
theorem TiX.toEver (x : TiX C H t lv nd dx rep ever liv nb) (e : Int) : TiX C (upd H t (.ins C dx (tfs e lv nd))) t lv nd dx rep e liv nb := by
  obtain ⟨n1, n2, n3, n4, n5⟩ := x.parts
  exact ⟨upd_same, by rw [upd_ne (Ne.symm n1)]; exact x.hl, by rw [upd_ne (Ne.symm n2)]; exact x.hn, fun p hp => by rw [upd_ne (n5 p hp).1]; exact x.hr p hp, x.ad, x.nk⟩
theorem TiX.toLiv (x : TiX C H t lv nd dx rep ever liv nb) (l : List Int) : TiX C (upd H lv (.lst (l.map V.int))) t lv nd dx rep ever l nb := by
  obtain ⟨n1, n2, n3, n4, n5⟩ := x.parts
  exact ⟨by rw [upd_ne n1]; exact x.ht, upd_same, by rw [upd_ne (Ne.symm n3)]; exact x.hn, fun p hp => by rw [upd_ne (n5 p hp).2.1]; exact x.hr p hp, x.ad, x.nk⟩
theorem snoc_int {l : List Int} {n : Int} : l.map V.int ++ [V.int n] = (l ++ [n]).map V.int := by
  rw [List.map_append]
  rfl
/-- a world comes, with a list of its own -/
theorem TiX.add (x : TiX C H t lv nd dx rep ever liv nb) {w : Int} {m : Addr} (l : List Int) (f : Fr H m) (hw : w ∉ rep.map (·.1)) :
    TiX C (upd (upd H m (.lst (l.map V.int))) nd (.dK ((rep ++ [(w, m)]).map kA))) t lv nd dx (rep ++ [(w, m)]) ever liv (setN nb w l) := by
  obtain ⟨n1, n2, n3, n4, n5⟩ := x.parts
  have m1 : t ≠ m := fr_ne x.ht f
  have m2 : lv ≠ m := fr_ne x.hl f
  have m3 : nd ≠ m := fr_ne x.hn f
  have m4 : ∀ p ∈ rep, p.2 ≠ m := fun p hp => fr_ne (x.hr p hp) f
  refine ⟨by rw [upd_ne n2, upd_ne m1]; exact x.ht, by rw [upd_ne n3, upd_ne m2]; exact x.hl, upd_same, fun p hp => ?_, ?_, ?_⟩
  · unfold setN
    rcases List.mem_append.mp hp with h | h
    · have e : p.1 ≠ w := fun e => hw (by rw [← e]; exact List.mem_map.mpr ⟨p, h, rfl⟩)
      rw [if_neg e, upd_ne (n5 p h).2.2, upd_ne (m4 p h)]
      exact x.hr p h
    · rw [List.mem_singleton.mp h, if_pos rfl, upd_ne (Ne.symm m3)]
      exact upd_same
  · have e : t :: lv :: nd :: (rep ++ [(w, m)]).map (·.2) = (t :: lv :: nd :: rep.map (·.2)) ++ [m] := by rw [List.map_append]; rfl
    rw [e]
    refine List.nodup_append.mpr ⟨x.ad, by simp, fun b hb c hc q => ?_⟩
    rw [List.mem_singleton.mp hc] at q
    obtain ⟨u, eu⟩ := x.known b hb
    rw [q, f.e] at eu
    cases eu
  · rw [List.map_append]
    refine List.nodup_append.mpr ⟨x.nk, by simp, fun b hb c hc q => hw ?_⟩
    have hc := List.mem_singleton.mp hc
    have q2 : b = w := q.trans hc
    rw [← q2]
    exact hb
end

/-! ### a new instance -/
theorem i_made {C : Addr} {sp : Sp} {E : XK} {H : Hp} {Q : VK} {vs : Addr → List V}
    (h : ∀ x dx, Fr H x → Fr H dx → dx ≠ x → sp (vs x) (upd (upd H dx (.own x)) x (.ins C dx [])) (fun v H2 => v = .non ∧ Q (.ref x) H2) E) :
    Made C sp E H Q vs := fun x dx hx hd n => h x dx ⟨hx⟩ ⟨hd⟩ n
theorem kp_made {H H3 : Hp} {x dx : Addr} {o1 o2 : HO} (hx : Fr H x) (hd : Fr H dx) (k : Kp [x] (upd (upd H dx o1) x o2) H3) : Kp [] H H3 :=
  Kp.drop (Kp.trans (Kp.wide (Kp.upd (Kp.upd Kp.refl hd) hx)) k) hx

/-! ### copies -/
def nbR (rs : List (Int × Int)) (u : Int) : List Int := rs.flatMap fun q => (if q.1 = u then [q.2] else []) ++ (if q.2 = u then [q.1] else [])
theorem nbR_step {rs : List (Int × Int)} {i : Nat} {q : Int × Int} (h : rs[i]? = some q) (u : Int) : nbR (rs.take (i + 1)) u = nbR (rs.take i) u ++ ((if q.1 = u then [q.2] else []) ++ (if q.2 = u then [q.1] else [])) := by
  unfold nbR
  rw [List.take_add_one, h, List.flatMap_append]
  simp
theorem nbR_len (u : Int) : ∀ rs : List (Int × Int), (nbR rs u).length ≤ 2 * rs.length
  | [] => Nat.zero_le _
  | q :: rs => by
    have ih := nbR_len u rs
    unfold nbR at ih ⊢
    rw [List.flatMap_cons, List.length_append, List.length_cons]
    have : ((if q.1 = u then [q.2] else []) ++ (if q.2 = u then [q.1] else [])).length ≤ 2 := by
      rw [List.length_append]
      split <;> split <;> simp
    omega
theorem mem_nbR {rs : List (Int × Int)} {u v : Int} : v ∈ nbR rs u ↔ (u, v) ∈ rs ∨ (v, u) ∈ rs := by
  unfold nbR
  rw [List.mem_flatMap]
  constructor
  · rintro ⟨q, hq, h⟩
    rcases List.mem_append.mp h with h | h
    · by_cases c : q.1 = u
      · rw [if_pos c, List.mem_singleton] at h
        rw [← c, h]
        exact .inl hq
      · rw [if_neg c] at h
        cases h
    · by_cases c : q.2 = u
      · rw [if_pos c, List.mem_singleton] at h
        rw [← c, h]
        exact .inr hq
      · rw [if_neg c] at h
        cases h
  · rintro (h | h)
    · exact ⟨_, h, List.mem_append.mpr (.inl (by rw [if_pos rfl]; exact List.mem_singleton.mpr rfl))⟩
    · exact ⟨_, h, List.mem_append.mpr (.inr (by rw [if_pos rfl]; exact List.mem_singleton.mpr rfl))⟩
theorem nbR_nd {u : Int} : ∀ {rs : List (Int × Int)}, rs.Nodup → (∀ q ∈ rs, q.1 < q.2) → (nbR rs u).Nodup
  | [], _, _ => List.nodup_nil
  | q :: rs, nd, lt => by
    rw [List.nodup_cons] at nd
    have ih := nbR_nd (u := u) nd.2 fun r hr => lt r (List.mem_cons_of_mem _ hr)
    have hq := lt q List.mem_cons_self
    have e : nbR (q :: rs) u = ((if q.1 = u then [q.2] else []) ++ (if q.2 = u then [q.1] else [])) ++ nbR rs u := by
      unfold nbR
      rw [List.flatMap_cons]
    rw [e]
    refine List.nodup_append.mpr ⟨?_, ih, fun a ha b hb q2 => ?_⟩
    · split <;> split <;> first | omega | simp
    · subst q2
      have m := mem_nbR.mp hb
      rcases List.mem_append.mp ha with h | h
      · by_cases c : q.1 = u
        · rw [if_pos c, List.mem_singleton] at h
          subst h
          subst c
          rcases m with m | m
          · exact nd.1 m
          · have := lt _ (List.mem_cons_of_mem _ m)
            have : q.2 < q.1 := this
            omega
        · rw [if_neg c] at h
          cases h
      · by_cases c : q.2 = u
        · rw [if_pos c, List.mem_singleton] at h
          subst h
          subst c
          rcases m with m | m
          · have := lt _ (List.mem_cons_of_mem _ m)
            have : q.2 < q.1 := this
            omega
          · exact nd.1 m
        · rw [if_neg c] at h
          cases h
theorem RowsOf.nd {ks : List Int} {nb : Int → List Int} {rs : List (Int × Int)} (r : RowsOf ks nb rs) : rs.Nodup := r.1.imp fun {a b} z e => by
  subst e
  unfold ltQ at z
  omega
/-- told by its rows, a tree is the same -/
theorem Tr3.told {D : Int → Int → Int} {ever : Int} {liv ks : List Int} {nb : Int → List Int} {rs : List (Int × Int)} (z : Tr3 D ever liv ks nb) (r : RowsOf ks nb rs) : Tr3 D ever liv ks (nbR rs) :=
  z.alike z.nk (fun _ => Iff.rfl) z.nl (fun _ => Iff.rfl) (fun u _ => nbR_nd r.nd fun q hq => ((r.2 q).mp hq).2.2) fun u hu v => by
    rw [mem_nbR, r.2, r.2]
    constructor
    · rintro (⟨_, h, _⟩ | ⟨h1, h2, _⟩)
      · exact h
      · exact z.rp.sym z.t z.hU h1 h2
    · intro h
      obtain ⟨a, b, _⟩ := (z.rp.adj u hu v).mp h
      by_cases c : u < v
      · exact .inl ⟨hu, h, c⟩
      · exact .inr ⟨a, z.rp.sym z.t z.hU hu h, show v < u by omega⟩
theorem wh_lockE {t : TE} {σ : L2.St} {H : Hp} {Q : VK} (P : Hp → Prop) (h : P H) (k : ∀ H', P H' → tLockE t σ H' Q) : tLockE t σ H Q := k H h

theorem pe_either {X : Cx} {e : Expr} {t1 t2 : TE} (h1 : PE X e t1) (h2 : PE X e t2) : PE X e (fun σ H Q => t1 σ H Q ∨ t2 σ H Q) := ⟨fun pins s σ H Q I h => h.elim (h1.run pins s σ H Q I) (h2.run pins s σ H Q I)⟩
section
variable {K : PySem.W.Frag} {t1 t2 td : TE} {σ : L2.St} {H H1 : Hp} {Q : VK} {g : TG} {tt : TT} {tk tv : TE} {vs : List Nat} {a : Addr} {xs : List V}
theorem wh_orE (P : Hp → Prop) (h : P H) (k : ∀ H', P H' → (fun σ H Q => t1 σ H Q ∨ t2 σ H Q : TE) σ H' Q) : (fun σ H Q => t1 σ H Q ∨ t2 σ H Q : TE) σ H Q := k H h
theorem or_dc (P : Addr → Hp → Prop) (q : ∀ d H', P d H' → Q (.ref d) H') (h : (∀ d H', P d H' → Q (.ref d) H') → (fun σ H Q => t1 σ H Q ∨ t2 σ H Q : TE) σ H Q) : (fun σ H Q => t1 σ H Q ∨ t2 σ H Q : TE) σ H Q := h q
theorem i_orL (h : t1 σ H Q) : (fun σ H Q => t1 σ H Q ∨ t2 σ H Q : TE) σ H Q := .inl h
theorem i_orR (h : t2 σ H Q) : (fun σ H Q => t1 σ H Q ∨ t2 σ H Q : TE) σ H Q := .inr h
/-- a dict comprehension over a list -/
def DcL (K : PySem.W.Frag) (x : V) (g : TG) (tt : TT) (tk tv : TE) (vs : List Nat) (σ : L2.St) (H1 : Hp) (Q : VK) : Prop := ∃ a, x = .ref a ∧ (∃ xs, SqL K H1 a xs) ∧ DcB (Itl K a) g tt tk tv vs σ H1 Q
theorem i_dcL (h : td σ H fun x H1 => DcL K x g tt tk tv vs σ H1 Q) : tDc (iList K td) g tt tk tv vs σ H Q := h
theorem i_dlistG (hs : SqL K H a xs) (Pv : Addr → Nat → Hp → Prop)
    (h0 : ∀ R, Fr H R → Pv R 0 (upd H R (.dK [])))
    (hl : ∀ R i H', Fr H R → i ≤ xs.length → Pv R i H' → SqL K H' a xs)
    (st : ∀ R i x H', Fr H R → xs[i]? = some x → Pv R i H' → g x (wipe σ vs) H' fun σ2 H2 =>
      wipe σ2 vs = wipe σ vs ∧ tt σ2 H2 fun b H3 => if b = true then tk σ2 H3 fun y H4 => tv σ2 H4 fun z H5 => ∃ kvs k, y = kV k ∧ H5 R = some (.dK kvs) ∧ kvs.length < sizeLine ∧ Pv R (i + 1) (upd H5 R (.dK (putK kvs k z))) else Pv R (i + 1) H3)
    (hdn : ∀ R H', Fr H R → Pv R xs.length H' → Q (.ref R) H') : DcL K (.ref a) g tt tk tv vs σ H Q := by
  refine ⟨a, rfl, ⟨_, hs⟩, fun R hR => ⟨fun i m H' => m = xs.length - i ∧ i ≤ xs.length ∧ Pv R i H', ⟨_, rfl, Nat.zero_le _, h0 R ⟨hR⟩⟩, ?_⟩⟩
  rintro i m H' ⟨rfl, hi, z⟩
  have q := hl R i H' ⟨hR⟩ hi z
  by_cases c : i < xs.length
  · refine .inr ⟨⟨xs, xs[i], q, List.getElem?_eq_getElem c⟩, Pv R (i + 1), fun H2 w => ⟨_, by omega, rfl, c, w⟩, ?_⟩
    intro x H2 y
    obtain ⟨e, y⟩ := y
    subst e
    exact st R i x _ ⟨hR⟩ (y xs q) z
  · have e : i = xs.length := by omega
    subst e
    exact .inl ⟨⟨xs, q, Nat.le_refl _⟩, hdn R _ ⟨hR⟩ z⟩
end
def sp_made2 (K : PySem.W.Frag) (C : Addr) : Sp := fun vs H Q _ => ∃ (ever : Int) (lvO ndO R : Addr) (liv kk : List Int) (rs : List (Int × Int)), vs = [.int ever, .ref lvO, .ref ndO, .ref R] ∧
  H lvO = some (.lst (liv.map V.int)) ∧ ((∃ repO : List (Int × Addr), H ndO = some (.dK (repO.map kA)) ∧ kk = repO.map (·.1)) ∨ H ndO = some (.lst (kk.map V.int))) ∧ LD K H R (rs.map d2) ∧ kk.Nodup ∧ kk.length ≤ 200 ∧ rs.length ≤ 40000 ∧ (∀ q ∈ rs, q.1 ∈ kk ∧ q.2 ∈ kk ∧ q.1 ≠ q.2) ∧
  ∀ t ps H', Fr H t → (∀ b ∈ ps, Fr H b) → Kp [] H H' → TiesAt C H' t ps ever liv kk (nbR rs) → Q (.ref t) H'
theorem sc_made : FnScope ["ever", "living", "worlds", "rows", "found", "low", "high", "world"] ["ever", "living", "worlds", "rows"] (defScope s_made) :=
  ⟨rfl, rfl, rfl, by decide +kernel, rfl, by decide +kernel, by decide +kernel⟩
theorem ok_made {P : Program} {w : World} {K : PySem.W.Frag} {mg : Str → Option Value} {base : Heap} (T : Txt K mg) :
    FnG P w K mg base 3 T.a_made T.d_made ["ever", "living", "worlds", "rows"] (sp_made2 K T.c_Ties) := by
  refine okD T.F_made sc_made (fun vs H Q E h => ?_) (fun cdv A outer s H vs Q E hr h => ?_)
  · first
      | (obtain ⟨_, rfl, _⟩ := h; rfl)
      | (obtain ⟨_, _, rfl, _⟩ := h; rfl)
      | (obtain ⟨_, _, _, rfl, _⟩ := h; rfl)
      | (obtain ⟨_, _, _, _, rfl, _⟩ := h; rfl)
      | (obtain ⟨_, _, _, _, _, rfl, _⟩ := h; rfl)
      | (obtain ⟨_, _, _, _, _, _, rfl, _⟩ := h; rfl)
      | (obtain ⟨_, _, _, _, _, _, _, rfl, _⟩ := h; rfl)
      | (obtain ⟨_, _, _, _, _, _, _, _, rfl, _⟩ := h; rfl)
      | (obtain ⟨_, _, _, _, _, _, _, _, _, rfl, _⟩ := h; rfl)
      | (obtain ⟨_, _, _, _, _, _, _, _, _, _, rfl, _⟩ := h; rfl)
      | (obtain ⟨_, _, _, _, _, _, _, _, _, _, _, rfl, _⟩ := h; rfl)
      | (obtain ⟨_, _, _, _, _, _, _, _, _, _, _, _, rfl, _⟩ := h; rfl)
      | (obtain ⟨_, _, _, _, _, _, _, _, _, _, _, _, _, rfl, _⟩ := h; rfl)
      | (obtain ⟨_, _, _, _, _, _, _, _, _, _, _, _, _, _, rfl, _⟩ := h; rfl)
      | (obtain ⟨_, _, _, _, _, _, _, _, _, _, _, _, _, _, _, rfl, _⟩ := h; rfl)
      | (obtain ⟨_, _, _, _, _, _, _, _, _, _, _, _, _, _, _, _, rfl, _⟩ := h; rfl)
      | (obtain ⟨_, _, _, _, _, _, _, _, _, _, _, _, _, _, _, _, _, rfl, _⟩ := h; rfl)
      | (obtain ⟨_, _, _, _, _, _, _, _, _, _, _, _, _, _, _, _, _, _, rfl, _⟩ := h; rfl)
      | (obtain ⟨_, _, _, _, _, _, _, _, _, _, _, _, _, _, _, _, _, _, _, rfl, _⟩ := h; rfl)
  · obtain ⟨ever, lvO, ndO, R, liv, kk, rs, rfl, hlO, hnO, hR, nkO, hlen, hrl, hrs, k⟩ := h
    have cl_Ties := T.cl_Ties
    have na_Ties_near := T.na_Ties_near
    have na_Ties_own_ever := T.na_Ties_own_ever
    have na_Ties_own_living := T.na_Ties_own_living
    refine ⟨_, (pss_cons (ps_set (i := 4) sc_made.nd rfl (Or.inl rfl) (mk0 T.mk_Ties (ok_Ties_init T) (hr.mono (by decide)) (by rfl) T.mg_Ties T.b_Ties_init passL))
      (pss_cons (k_sfld (K := K) rfl (pv 4) (pv 0) rfl)
      (pss_cons (k_sfld (K := K) rfl (pv 4) (pe_callTy (k_list (K := K) rfl) (by rfl) T.n_list (by decide +kernel) (pa_cons (pv 1) pa_nil)) rfl)
      (pss_cons (k_sfld (K := K) rfl (pv 4) (pe_either (pe_lock (pe_dc (own := [("world", 7)]) (g := (gName 7)) (tt := tYes) rfl sc_made.nd (pi_keys (pv 2)) (blkOk_by (own := [("world", 7)]) (N := ["ever", "living", "worlds", "rows", "found", "low", "high", "world"]) (sc := defScope s_made) (by decide +kernel)) (fun _ _ _ _ _ => (pg_name (i := 7) sc_made.nd rfl (Or.inl rfl))) (fun _ _ _ _ _ => pts_nil) (fun _ _ _ _ _ => (pv 7)) (fun _ _ _ _ _ => (pe_lst pa_nil)))) (pe_dc (own := [("world", 7)]) (g := (gName 7)) (tt := tYes) rfl sc_made.nd (k_plist (K := K) rfl (pv 2)) (blkOk_by (own := [("world", 7)]) (N := ["ever", "living", "worlds", "rows", "found", "low", "high", "world"]) (sc := defScope s_made) (by decide +kernel)) (fun _ _ _ _ _ => (pg_name (i := 7) sc_made.nd rfl (Or.inl rfl))) (fun _ _ _ _ _ => pts_nil) (fun _ _ _ _ _ => (pv 7)) (fun _ _ _ _ _ => (pe_lst pa_nil)))) rfl)
      (pss_cons (ps_for (passes_of rfl) rfl (k_plist (K := K) rfl (pv 3)) (k_gtup (K := K) 2 rfl rfl (pgs_cons (pg_name (i := 5) sc_made.nd rfl (Or.inl rfl)) (pgs_cons (pg_name (i := 6) sc_made.nd rfl (Or.inl rfl)) pgs_nil)))
      (pss_cons (ps_expr (pe_bm PySem.F.plainAttrs_list PySem.F.slot_list_append PySem.F.type_list_append mt_append (pe_dget (u1 hr.r.units) (k_fld (K := K) rfl (pv 4) rfl) (pv 5) (fun _ _ => rfl)) (pa_cons (pv 6) pa_nil)))
      (pss_one (ps_expr (pe_bm PySem.F.plainAttrs_list PySem.F.slot_list_append PySem.F.type_list_append mt_append (pe_dget (u1 hr.r.units) (k_fld (K := K) rfl (pv 4) rfl) (pv 6) (fun _ _ => rfl)) (pa_cons (pv 5) pa_nil))))))
      (pss_one (ps_ret (pv 4)))))))), ?_⟩
    dsimp only [cxOf, st_1, st_2, st_3, st_4, st_5, st_6, List.length_cons, List.length_nil, List.replicate_succ, List.replicate_zero, Nat.reduceAdd, Nat.reduceSub]
    walk_at "gs"
    refine i_made fun t d ft fd nd => ?_
    refine ⟨t, d, rfl, upd_same, fun ps0 H1 k1 g1 x1 => ?_⟩
    have k01 : Kp [] H H1 := kp_made ft fd k1
    obtain ⟨lv0, nd0, dx, rep0, x1, _, _⟩ := x1
    have ht1 := x1.ht
    have hlO1 := k01.at_ _ _ hlO not_nil
    have nlt : lvO ≠ t := fr_ne hlO ft
    refine ⟨rfl, ?_⟩
    walk_at "gs"
    refine i_new fun L fL => ?_
    walk_at "gs"
    refine wh_orE (fun H4 => Kp [] H H4 ∧ H4 t = some (.ins T.c_Ties dx (tfs ever L nd0)) ∧ H4 L = some (.lst (liv.map V.int)) ∧ Fr H L) ?_ ?_
    · have fL0 : Fr H L := (Kp.upd (o := .ins T.c_Ties dx (tfs ever lv0 nd0)) k01 ft).free fL
      have ntL : t ≠ L := fr_ne upd_same fL
      exact ⟨Kp.upd (Kp.upd (Kp.upd k01 ft) fL0) ft, upd_same, by rw [upd_ne (Ne.symm ntL)]; exact upd_same, fL0⟩
    rintro H4 ⟨k4, ht4, hL4, fL0⟩
    have hR4 := hR.kp k4 (imms_d2 _) not_nil
    have stepK : ∀ {i : Nat} {x : Int}, kk[i]? = some x → x ∉ kk.take i := fun {i x} h z => by
      obtain ⟨j, hj⟩ := List.getElem?_of_mem z
      have jl := (List.getElem?_eq_some_iff.mp hj).1
      rw [List.length_take] at jl
      rw [List.getElem?_take_of_lt (by omega)] at hj
      have := (List.getElem?_inj (List.getElem?_eq_some_iff.mp hj).1 nkO).mp (hj.trans h.symm)
      omega
    have body : ∀ (Hs H' : Hp) (Dd m : Addr) (i : Nat) (x : Int) (rp : List (Int × Addr)), Kp [] Hs H' → Fr Hs Dd → kk[i]? = some x → H' Dd = some (.dK (rp.map kA)) → rp.map (·.1) = kk.take i → (∀ p ∈ rp, H' p.2 = some (.lst []) ∧ Fr Hs p.2) → (Dd :: rp.map (·.2)).Nodup → Fr H' m →
        ∃ (kvs : List (Key × V)) (ky : Key), V.int x = kV ky ∧ upd H' m (.lst []) Dd = some (.dK kvs) ∧ kvs.length < sizeLine ∧ Kp [] Hs (upd (upd H' m (.lst [])) Dd (.dK (putK kvs ky (.ref m)))) ∧ ∃ rp2 : List (Int × Addr), upd (upd H' m (.lst [])) Dd (.dK (putK kvs ky (.ref m))) Dd = some (.dK (rp2.map kA)) ∧ rp2.map (·.1) = kk.take (i + 1) ∧ (∀ p ∈ rp2, upd (upd H' m (.lst [])) Dd (.dK (putK kvs ky (.ref m))) p.2 = some (.lst []) ∧ Fr Hs p.2) ∧ (Dd :: rp2.map (·.2)).Nodup := by
      intro Hs H' Dd m i x rp k5 fD hx hD hk5 hrp nrp fm
      have nin : x ∉ rp.map (·.1) := by
        rw [hk5]
        exact stepK hx
      have hrl2 : rp.length ≤ 200 := by
        have e := congrArg List.length hk5
        rw [List.length_map, List.length_take] at e
        omega
      have nDm : Dd ≠ m := fr_ne hD fm
      have fm0 := k5.free fm
      have km : Kp [] H' (upd H' m (.lst [])) := Kp.new fm
      refine ⟨rp.map kA, .inl x, rfl, by rw [upd_ne nDm]; exact hD, small_sz (by rw [List.length_map]; omega), Kp.upd (Kp.upd k5 fm0) fD, rp ++ [(x, m)], ?_, ?_, fun r hr2 => ?_, ?_⟩
      · rw [put_new nin]
        exact upd_same
      · rw [List.map_append, hk5, List.take_add_one, hx]
        rfl
      · rcases List.mem_append.mp hr2 with h | h
        · obtain ⟨h1, h2⟩ := hrp r h
          have nr : r.2 ≠ Dd := fun e => by
            rw [List.nodup_cons] at nrp
            exact nrp.1 (List.mem_map.mpr ⟨r, h, e⟩)
          exact ⟨by rw [upd_ne nr]; exact km.at_ _ _ h1 not_nil, h2⟩
        · rw [List.mem_singleton.mp h]
          exact ⟨by rw [upd_ne (Ne.symm nDm)]; exact upd_same, fm0⟩
      · have e : Dd :: (rp ++ [(x, m)]).map (·.2) = (Dd :: rp.map (·.2)) ++ [m] := by rw [List.map_append]; rfl
        rw [e]
        refine List.nodup_append.mpr ⟨nrp, by simp, fun b hb c hc q => ?_⟩
        rw [List.mem_singleton.mp hc] at q
        rcases List.mem_cons.mp hb with h | h
        · exact nDm (h.symm.trans q)
        · obtain ⟨r, hr2, e2⟩ := List.mem_map.mp h
          exact fr_ne (hrp r hr2).1 fm (e2.trans q)
    refine or_dc (fun Dd H6 => Fr H4 Dd ∧ Kp [] H4 H6 ∧ ∃ rp : List (Int × Addr), H6 Dd = some (.dK (rp.map kA)) ∧ rp.map (·.1) = kk ∧ (∀ p ∈ rp, H6 p.2 = some (.lst []) ∧ Fr H4 p.2) ∧ (Dd :: rp.map (·.2)).Nodup) ?rest (fun go => ?_)
    case' rest => rintro Dd H6 ⟨fD4, k6, rp, hD6, hk6, hrp6, nrp⟩
    rotate_left
    · rcases hnO with ⟨repO, hnO, ekk⟩ | hnO
      · have hnO4 := k4.at_ _ _ hnO not_nil
        refine i_orL ?_
        refine i_lockE hnO4 fun od => ?_
        walk_at "gs"
        refine i_dkeyG (o := od) upd_same (fun Dd i H' => Kp [] (upd H4 ndO (.frz od (.dK (repO.map kA)))) H' ∧ ∃ rp : List (Int × Addr), H' Dd = some (.dK (rp.map kA)) ∧ rp.map (·.1) = kk.take i ∧ (∀ p ∈ rp, H' p.2 = some (.lst []) ∧ Fr (upd H4 ndO (.frz od (.dK (repO.map kA)))) p.2) ∧ (Dd :: rp.map (·.2)).Nodup) ?_ ?_ ?_ ?_
        · intro Dd fD
          exact ⟨Kp.new fD, [], upd_same, by rw [List.take_zero]; rfl, fun p hp => (nomatch hp), by simp⟩
        · rintro Dd i H' fD ⟨k5, _⟩
          exact k5.at_ _ _ upd_same not_nil
        · rintro Dd i ky v H' fD hk ⟨k5, rp, hD, hk5, hrp, nrp⟩
          obtain ⟨p, hp, e⟩ := map_get hk
          cases e
          have hik : kk[i]? = some p.1 := by rw [ekk, List.getElem?_map, hp]; rfl
          show gName 7 (.int p.1) _ _ _
          walk_at "gs"
          refine i_new fun m fm => ?_
          walk_at "gs"
          exact body _ H' Dd m i p.1 rp k5 fD hik hD hk5 hrp nrp fm
        · rintro Dd H' fD ⟨k5, rp, hD, hk5, hrp, nrp⟩
          have ol : ∀ b, Fr (upd H4 ndO (.frz od (.dK (repO.map kA)))) b → Fr H4 b := fun b f => by
            have n : b ≠ ndO := Ne.symm (fr_ne upd_same f)
            exact ⟨by rw [← f.e, upd_ne n]⟩
          have fD4 : Fr H4 Dd := ol _ fD
          have nDO : Dd ≠ ndO := Ne.symm (fr_ne hnO4 fD4)
          refine ⟨k5.at_ _ _ upd_same not_nil, go _ _ ⟨fD4, kp_unl hnO4 (fun z => z) k5, rp, by rw [upd_ne nDO]; exact hD, by rw [hk5, ekk]; exact List.take_of_length_le (by simp), fun p hp => ?_, nrp⟩⟩
          have f := ol _ (hrp p hp).2
          exact ⟨by rw [upd_ne (Ne.symm (fr_ne hnO4 f))]; exact (hrp p hp).1, f⟩
      · have hnO4 := k4.at_ _ _ hnO not_nil
        refine i_orR ?_
        refine i_dcL ?_
        walk_at "gs"
        refine i_dlistG (SqL.of hnO4) (fun Dd i H' => Kp [] H4 H' ∧ ∃ rp : List (Int × Addr), H' Dd = some (.dK (rp.map kA)) ∧ rp.map (·.1) = kk.take i ∧ (∀ p ∈ rp, H' p.2 = some (.lst []) ∧ Fr H4 p.2) ∧ (Dd :: rp.map (·.2)).Nodup) ?_ ?_ ?_ ?_
        · intro Dd fD
          exact ⟨Kp.new fD, [], upd_same, by rw [List.take_zero]; rfl, fun p hp => (nomatch hp), by simp⟩
        · rintro Dd i H' fD _ ⟨k5, _⟩
          exact SqL.of (k5.at_ _ _ hnO4 not_nil)
        · rintro Dd i y H' fD hy ⟨k5, rp, hD, hk5, hrp, nrp⟩
          obtain ⟨x, hx, e⟩ := map_get hy
          subst e
          walk_at "gs"
          refine i_new fun m fm => ?_
          walk_at "gs"
          exact body _ H' Dd m i x rp k5 fD hx hD hk5 hrp nrp fm
        · rintro Dd H' fD4 ⟨k6, rp, hD6, hk5, hrp6, nrp⟩
          exact go _ _ ⟨fD4, k6, rp, hD6, by rw [hk5]; exact List.take_of_length_le (by simp), hrp6, nrp⟩
    have ntD : t ≠ Dd := fr_ne ht4 fD4
    have nLD : L ≠ Dd := fr_ne hL4 fD4
    have ntL : t ≠ L := fun e => by
      rw [e, hL4] at ht4
      cases ht4
    have nm : ∀ p ∈ rp, p.2 ≠ t ∧ p.2 ≠ L ∧ p.2 ≠ Dd := fun p hp => by
      have f := (hrp6 p hp).2
      refine ⟨Ne.symm (fr_ne ht4 f), Ne.symm (fr_ne hL4 f), fun e => ?_⟩
      rw [List.nodup_cons] at nrp
      exact nrp.1 (List.mem_map.mpr ⟨p, hp, e⟩)
    have ht6 := k6.at_ _ _ ht4 not_nil
    have hL6 := k6.at_ _ _ hL4 not_nil
    have hR6 := hR4.kp k6 (imms_d2 _) not_nil
    have k06 := Kp.trans k4 k6
    walk_at "gs"
    have x7 : TiX T.c_Ties (upd H6 t (.ins T.c_Ties dx (putF "near" (V.ref Dd) (tfs ever L nd0)))) t L Dd dx rp ever liv (nbR []) := by
      refine ⟨show _ = some (HO.ins T.c_Ties dx (tfs ever L Dd)) from upd_same, by rw [upd_ne (Ne.symm ntL)]; exact hL6, by rw [upd_ne (Ne.symm ntD)]; exact hD6, fun p hp => ?_, ?_, by rw [hk6]; exact nkO⟩
      · obtain ⟨n1, n2, n3⟩ := nm p hp
        rw [upd_ne n1]
        exact (hrp6 p hp).1
      · rw [List.nodup_cons] at nrp
        simp only [List.nodup_cons, List.mem_cons, not_or]
        exact ⟨⟨ntL, ntD, fun z => by
          obtain ⟨p, hp, e⟩ := List.mem_map.mp z
          exact (nm p hp).1 e⟩, ⟨nLD, fun z => by
          obtain ⟨p, hp, e⟩ := List.mem_map.mp z
          exact (nm p hp).2.1 e⟩, nrp⟩
    have k07 : Kp [] H (upd H6 t (.ins T.c_Ties dx (putF "near" (V.ref Dd) (tfs ever L nd0)))) := Kp.upd k06 ft
    have frs : ∀ p ∈ rp, Fr H p.2 := fun p hp => k4.free (hrp6 p hp).2
    have fD0 : Fr H Dd := k4.free fD4
    have ld7 := hR.kp k07 (imms_d2 _) not_nil
    obtain ⟨xs, hxs, hall⟩ := id ld7
    have hxl := dpa_len hall
    rw [List.length_map] at hxl
    have hx0 : SqL K H R xs := by
      obtain ⟨ys, hys, _⟩ := id hR
      have e := k07.at_ _ _ hys not_nil
      rw [hxs] at e
      injection e with e
      injection e with e
      rw [e]
      exact SqL.of hys
    have hall0 : DpAll K H xs (rs.map d2) := by
      obtain ⟨ys, hys, ha⟩ := id hR
      have e := k07.at_ _ _ hys not_nil
      rw [hxs] at e
      injection e with e
      injection e with e
      rw [e]
      exact ha
    refine i_each (SqL.of hxs) (fun i σ H2 => ∃ o1 o2 o3 : Option V, σ = [some (.int ever), some (.ref lvO), some (.ref ndO), some (.ref R), some (.ref t), o1, o2, o3] ∧ Kp [] H H2 ∧ TiX T.c_Ties H2 t L Dd dx rp ever liv (nbR (rs.take i))) ?_ ?_ ?_ ?_
    · exact ⟨_, _, _, rfl, k07, by rw [List.take_zero]; exact x7⟩
    · rintro i σ H2 _ ⟨_, _, _, _, k2, _⟩
      exact k2.seqL not_nil hx0
    · rintro i y σ H2 hy ⟨o1, o2, o3, rfl, k2, x2⟩
      obtain ⟨dd, hdd, hdp⟩ := dpa_getV hall0 hy
      obtain ⟨q, hq, rfl⟩ := map_get hdd
      obtain ⟨tt, rfl, hT⟩ := dp_pair (dp_imm k2 _ _ rfl hdp)
      obtain ⟨m1, m2, m3⟩ := hrs q (List.mem_of_getElem? hq)
      rw [← hk6] at m1 m2
      obtain ⟨b1, hb1, c1⟩ := x2.mem m1
      obtain ⟨b2, hb2, c2⟩ := x2.mem m2
      have l1 := nbR_len q.1 (rs.take i)
      have l2 := nbR_len q.2 (rs.take i)
      have l3 := List.length_take_le i rs
      have l4 : (rs.take i).length ≤ rs.length := by rw [List.length_take]; omega
      have ht2 := x2.ht
      have n12 : b1 ≠ b2 := fun e => m3 (rep_inj x2.parts.2.2.2.1 (a := b1) hb1 (by rw [e]; exact hb2))
      walk_at "gs"
      refine i_dg x2.hn (val_rep x2.nk hb1) ?_
      walk_at "gs"
      refine i_app c1 (small_sz (by rw [List.length_map]; omega)) ?_
      rw [snoc_int]
      have x3 := x2.put hb1 (nbR (rs.take i) q.1 ++ [q.2])
      have ht3 := x3.ht
      have c3 : (upd H2 b1 (.lst ((nbR (rs.take i) q.1 ++ [q.2]).map V.int))) b2 = some (.lst ((nbR (rs.take i) q.2).map V.int)) := by rw [upd_ne (Ne.symm n12)]; exact c2
      walk_at "gs"
      refine i_dg x3.hn (val_rep x3.nk hb2) ?_
      walk_at "gs"
      refine i_app c3 (small_sz (by rw [List.length_map]; omega)) ?_
      rw [snoc_int]
      walk_at "gs"
      refine ⟨_, _, _, rfl, Kp.upd (Kp.upd k2 (frs _ hb1)) (frs _ hb2), (x3.put hb2 (nbR (rs.take i) q.2 ++ [q.1])).congr fun p hp => ?_⟩
      show (if p.1 = q.2 then _ else if p.1 = q.1 then _ else nbR (rs.take i) p.1) = _
      rw [nbR_step hq]
      by_cases d1 : p.1 = q.2
      · rw [if_pos d1, if_neg (fun z => m3 (z.trans d1)), if_pos d1.symm, d1]
        rfl
      · rw [if_neg d1, if_neg (fun z : q.2 = p.1 => d1 z.symm)]
        by_cases d3 : p.1 = q.1
        · rw [if_pos d3, if_pos d3.symm, d3, List.append_nil]
        · rw [if_neg d3, if_neg (fun z : q.1 = p.1 => d3 z.symm), List.append_nil, List.append_nil]
    rintro σ H2 ⟨o1, o2, o3, rfl, k2, x2⟩
    rw [hxl, List.take_length] at x2
    walk_at "gs"
    refine k t (t :: L :: Dd :: rp.map (·.2)) H2 ft (fun b hb => ?_) k2 ⟨L, Dd, dx, rp, x2, rfl, hk6.symm⟩
    simp only [List.mem_cons] at hb
    rcases hb with h | h | h | h
    · rw [h]
      exact ft
    · rw [h]
      exact fL0
    · rw [h]
      exact fD0
    · obtain ⟨p, hp, e⟩ := List.mem_map.mp h
      rw [← e]
      exact frs p hp

/-! ### sorted(set(numbers)) of a list -/
section
open PySem PySem.Spec PyProof PyProof.Rows PySem.Calls
/-- the set as it is born -/
abbrev born (w : World) : Obj := { cls := .type "set", dict := none, data := .set #[] 0 (.fresh 0 0 (!w.params.followText "set-order")) }
abbrev grownS (w : World) (s : Shared) : Shared := { s with heap := s.heap.push (born w) }
variable {P : Program} {w : World} {A : Around} {E : Value → Shared → Prop} {s : Shared}
/-- what holds behind set.__init__ -/
def SetDone (w : World) (s : Shared) (ns : List Int) (s2 : Shared) : Prop := ∃ h' tk c, s2 = { s with heap := h', toks := tk } ∧ L2.SetR w h' s.heap.objs.size (fun j => decide (j ∈ ns)) c ∧ c ≤ ns.length ∧ ∀ b o, s.heap.get? b = some o → h'.get? b = some o
theorem ints_at {items : Array Value} {ns : List Int} (hit : IntsAre items.toList ns) (i : Nat) (v : Value) (hv : items[i]? = some v) : ∃ k t, ns[i]? = some k ∧ v = .int k t := by
  have z := IntsAre.length hit
  rw [Array.length_toList] at z
  have hi : i < ns.length := by
    have := (Array.getElem?_eq_some_iff.mp hv).1
    omega
  obtain ⟨t, e⟩ := PyProof.Rows.IntsAre.int_at hit i v (by rw [Array.getElem?_toList]; exact hv)
  exact ⟨ns[i], t, List.getElem?_eq_getElem hi, by rw [e, List.getD_eq_getElem?_getD, List.getElem?_eq_getElem hi]; rfl⟩
theorem setL_call {l : Addr} {items : Array Value} (ns : List Int) {Q : Value → Shared → Prop} (hh : A.handled = none) (hl : s.heap.IsList l items) (hit : IntsAre items.toList ns) (hb : ns.length + 1 < scanBound)
    (k : ∀ s2, SetDone w s ns s2 → Q (.ref s.heap.objs.size) s2) : wpAny (model P w) A (call (.type "set") [.ref l]) Q E s := by
  have len := IntsAre.length hit
  rw [Array.length_toList] at len
  obtain ⟨c0, tl0, m0⟩ := F.called_set.mro
  have m1 := F.called_set.made
  have m2 := F.called_set.sub
  have m3 := F.called_set.notType
  have m4 := F.called_set.canCreate
  have m5 := F.typeCall_set_1 (.ref l)
  refine wpAny_call (codeAny_of_tree ?_)
  show wpAny _ _ (callAny (.type "set") _) _ _ _
  refine wpAny_pure ⟨Code.quiet_builtin _ (by decide +kernel), codeAny_builtin F.entry_type_call ?_⟩
  rw [Around.under_plain (weight_type_call_type "set" [.ref l] []) rfl]
  repeat (any_goals (first | assumption | wp_step))
  refine codeAny_mono (L2.code_set_led1 (.ref l) (E := E) (Q₁ := fun o s1 => o = .ref s.heap.objs.size ∧ s1 = grownS w s) ⟨rfl, rfl⟩) fun r s1 hr => ?_
  match r, hr with
  | .error e, hr => exact hr
  | .ok (.ret o), ⟨e1, e2⟩ =>
    subst e1 e2
    have at0 : (grownS w s).heap.get? s.heap.objs.size = some (born w) := Heap.get?_push_size _ rfl
    have ty0 : Shared.TypeIs (grownS w s) (.ref s.heap.objs.size) "set" := ⟨_, at0, rfl⟩
    have i1 := F.called_set.init.lookup
    have i2 := F.called_set.init.bind (.ref s.heap.objs.size)
    repeat (any_goals (first | assumption | wp_step))
    refine codeAny_mono (codeAny_call_builtin (R := wants (fun r s2 => r = .none ∧ SetDone w s ns s2) E) F.called_set.init.plain F.entry_set_init (check_set_init_1 ty0 ?_)) fun r2 s2 hr2 => ?_
    · obtain ⟨⟨oc, od, odt, os⟩, eo, ec, n, ed⟩ := id hl
      simp only at ec ed
      subst ec ed
      have here : (grownS w s).heap.IsList l items := ⟨_, Heap.get?_push_of_some _ eo, rfl, n, rfl⟩
      have before : l < s.heap.objs.size := Heap.lt_size eo
      have next : (grownS w s).heap.objs.size = s.heap.objs.size + 1 := Heap.size_push ..
      have b1 := F.sub_list_set
      have b2 := F.sub_list_frozenset
      have b3 : (Value.type "list" == Value.type "dict") = false := by decide
      have eo2 : (grownS w s).heap.get? l = _ := Heap.get?_push_of_some _ eo
      unfold Builtin.«set.__init__» noKeywords Builtin.Frozenset.updateFrom
      generalize hPI : pyIter = PI
      wp_walk
      subst hPI
      refine wpAny_pyIter_list here ?_
      refine wpAny_bind (wpAny_runValue ?_)
      have hA : A.in1.in1.in1.handled = none := by simp [hh]
      have apart : l ≠ (grownS w s).heap.objs.size := by rw [next]; exact Nat.ne_of_lt (Nat.lt_succ_of_lt before)
      have away : s.heap.objs.size ∉ [(grownS w s).heap.objs.size, l] := by
        simp only [List.mem_cons, List.not_mem_nil, or_false, not_or]
        exact ⟨by rw [next]; exact Nat.ne_of_lt (Nat.lt_succ_self _), Nat.ne_of_gt before⟩
      refine L2.set_update_ints ((Walks.list hA _ l apart items).toS) s.heap.objs.size away ns len hb (ints_at hit) (items.size - 0) 0 _ (by omega) (Nat.zero_le _) ⟨⟨_, Heap.get?_push_size _ rfl, rfl, rfl⟩, here.push _⟩ ⟨0, Nat.le_refl 0, L2.setR_new_at (Heap.get?_push_of_some _ at0)⟩ ?_
      intro s3 c mv lc R
      obtain ⟨h3, g3, d3, t3, o3⟩ := s3
      have q1 : g3 = s.gens := mv.gens
      have q2 : d3 = s.drawn := mv.drawn
      have q3 : o3 = s.os := mv.os
      subst q1 q2 q3
      rw [len] at lc
      refine wpAny_pure ?_
      show wpAny _ _ (ret Value.none) _ _ _
      refine wpAny_pure ⟨rfl, h3, t3, c, rfl, R, lc, fun b o e => ?_⟩
      have lb := Heap.lt_size e
      refine mv.heap b o ?_ (Heap.get?_push_of_some _ (Heap.get?_push_of_some _ e))
      simp only [List.mem_cons, List.not_mem_nil, or_false, not_or]
      exact ⟨Nat.ne_of_lt lb, by rw [next]; exact Nat.ne_of_lt (Nat.lt_succ_of_lt lb)⟩
    · match r2, hr2 with
      | .error e, hr2 => exact hr2
      | .ok (.ret v), ⟨e3, d⟩ =>
        subst e3
        obtain ⟨h', tk, c, e4, R, lc, kp⟩ := d
        subst e4
        repeat (any_goals (first | assumption | wp_step))
        exact k _ ⟨h', tk, c, rfl, R, lc, kp⟩
end
/-- set(list of numbers) -/
def rSetL (K : PySem.W.Frag) (w : World) : List V → Hp → VK → Prop := fun xs H Q => ∃ (l : Addr) (ns : List Int), xs = [.ref l] ∧ SqL K H l (ns.map V.int) ∧ ns.length ≤ 1000 ∧
  ∀ p c, Fr H p → c ≤ ns.length → Q (.ref p) (upd H p (L2.SetO w p (fun j => decide (j ∈ ns)) c))
theorem k_setL {X : Cx} {K : PySem.W.Frag} {w : World} (h : X.K = K) (hw : X.w = w) (hc : X.calm = true) : CallR X (.type "set") (rSetL K w) := by
  subst h
  subst hw
  intro pins s σ H xs us Q I r q
  obtain ⟨l, ns, rfl, hs, hn, q⟩ := q
  rw [Vals.ref1 r]
  obtain ⟨its, rv, pl, hz⟩ := I.list hs
  have hi : PyProof.Rows.IntsAre its.toArray.toList ns := by simpa using RZ.intsAre_vals rv
  refine setL_call ns (I.ok.hd hc) pl.isList hi (by unfold scanBound; omega) fun s2 d => ?_
  obtain ⟨h', tk, c, rfl, R, lc, kp⟩ := d
  have fresh : H s.heap.objs.size = none := I.hok.fresh (Nat.le_refl _)
  exact ⟨.ref s.heap.objs.size, upd H s.heap.objs.size (L2.SetO X.w s.heap.objs.size (fun j => decide (j ∈ ns)) c), I.laid (t' := tk) kp (Nat.le_refl _) (L2.setO_new R), rfl, q _ c ⟨fresh⟩ lc⟩
theorem k_sortedSet {X : Cx} {w : World} (hw : X.w = w) (hc : X.calm = true) : CallR X (.builtin "sorted") (L2.rSortedSet w) := hw ▸ L2.cr_sortedSet hc

theorem fresh_at {H : Hp} {p : Addr} {o : HO} (_ : Fr H p) : upd H p o p = some o := upd_same
theorem all_rep (n : Nat) : (List.replicate n true).all id = true := by simp

/-! ### a comprehension over a tuple -/
section
variable {K : PySem.W.Frag} {σ : L2.St} {H H1 : Hp} {Q : VK} {a p l : Addr} {xs : List V} {g : TG} {tt : TT} {te : TE} {vs : List Nat}
def LcT (K : PySem.W.Frag) (x : V) (g : TG) (tt : TT) (te : TE) (vs : List Nat) (σ : L2.St) (H1 : Hp) (Q : VK) : Prop :=
  ∃ a, x = .ref a ∧ (∃ xs, SqT K H1 a xs) ∧ ∀ D, H1 D = none →
    ∃ W : Nat → Nat → Hp → Prop, (∃ m, W 0 m (upd H1 D (.lst []))) ∧ ∀ i m H, W i m H →
      ((Itt K a).stop i H ∧ Q (.ref D) H) ∨ ((Itt K a).go i H ∧ ∃ Nx : Hp → Prop,
        (∀ H', Nx H' → ∃ m', m' < m ∧ W (i + 1) m' H') ∧
        ∀ x H', (Itt K a).yld i H x H' → g x (wipe σ vs) H' fun σ2 H2 => wipe σ2 vs = wipe σ vs ∧ tt σ2 H2 fun b H3 =>
          if b = true then te σ2 H3 fun y H4 => ∃ acc, H4 D = some (.lst acc) ∧ acc.length < sizeLine ∧
            Nx (upd H4 D (.lst (acc ++ [y]))) else Nx H3)
theorem i_lcT {te' : TE} (h : te' σ H fun x H1 => LcT K x g tt te vs σ H1 Q) :
    tLc (iTup K te') g tt te vs σ H Q := h
theorem i_eltsT (hs : SqT K H a xs) (Pv : Addr → Nat → Hp → Prop)
    (h0 : ∀ D, Fr H D → Pv D 0 (upd H D (.lst [])))
    (hl : ∀ D i H', Fr H D → i ≤ xs.length → Pv D i H' → SqT K H' a xs)
    (st : ∀ (D : Addr) (i : Nat) (x : V) (H' : Hp), Fr H D → xs[i]? = some x → Pv D i H' → g x (wipe σ vs) H' fun σ2 H2 =>
      wipe σ2 vs = wipe σ vs ∧ tt σ2 H2 fun b H3 => if b = true then te σ2 H3 fun y H4 =>
        ∃ acc, H4 D = some (.lst acc) ∧ acc.length < sizeLine ∧ Pv D (i + 1) (upd H4 D (.lst (acc ++ [y])))
        else Pv D (i + 1) H3)
    (hd : ∀ D H', Fr H D → Pv D xs.length H' → Q (.ref D) H') : LcT K (.ref a) g tt te vs σ H Q := by
  refine ⟨a, rfl, ⟨_, hs⟩, fun D hD => ?_⟩
  exact lc_tup (K := K) (a := a) (xs := xs) (Pv D) (h0 D ⟨hD⟩) (fun i H' => hl D i H' ⟨hD⟩)
    (fun i x H' => st D i x H' ⟨hD⟩) (fun H' => hd D H' ⟨hD⟩)
end

/-! ### are_worlds, are_pairs -/
def sp_worlds (K : PySem.W.Frag) : Sp := fun vs H Q _ => ∃ (a : Addr) (e : Int) (ls : List Int), vs = [.ref a, .int e] ∧ H a = some (.lst (ls.map V.int)) ∧ ls.Pairwise (· < ·) ∧ (∀ x ∈ ls, Un e x) ∧ ls.length < 64 ∧ ∀ H', Kp [] H H' → Q (.bl true) H'
theorem sc_are_worlds : FnScope ["thing", "ever", "world"] ["thing", "ever"] (defScope s_are_worlds) :=
  ⟨rfl, rfl, rfl, by decide +kernel, rfl, by decide +kernel, by decide +kernel⟩
theorem ok_are_worlds {P : Program} {w : World} {K : PySem.W.Frag} {mg : Str → Option Value} {base : Heap} (T : Txt K mg) :
    FnG P w K mg base 2 T.a_are_worlds T.d_are_worlds ["thing", "ever"] (sp_worlds K) := by
  refine okD T.F_are_worlds sc_are_worlds (fun vs H Q E h => ?_) (fun cdv A outer s H vs Q E hr h => ?_)
  · first
      | (obtain ⟨_, rfl, _⟩ := h; rfl)
      | (obtain ⟨_, _, rfl, _⟩ := h; rfl)
      | (obtain ⟨_, _, _, rfl, _⟩ := h; rfl)
      | (obtain ⟨_, _, _, _, rfl, _⟩ := h; rfl)
      | (obtain ⟨_, _, _, _, _, rfl, _⟩ := h; rfl)
      | (obtain ⟨_, _, _, _, _, _, rfl, _⟩ := h; rfl)
      | (obtain ⟨_, _, _, _, _, _, _, rfl, _⟩ := h; rfl)
      | (obtain ⟨_, _, _, _, _, _, _, _, rfl, _⟩ := h; rfl)
      | (obtain ⟨_, _, _, _, _, _, _, _, _, rfl, _⟩ := h; rfl)
      | (obtain ⟨_, _, _, _, _, _, _, _, _, _, rfl, _⟩ := h; rfl)
      | (obtain ⟨_, _, _, _, _, _, _, _, _, _, _, rfl, _⟩ := h; rfl)
      | (obtain ⟨_, _, _, _, _, _, _, _, _, _, _, _, rfl, _⟩ := h; rfl)
      | (obtain ⟨_, _, _, _, _, _, _, _, _, _, _, _, _, rfl, _⟩ := h; rfl)
      | (obtain ⟨_, _, _, _, _, _, _, _, _, _, _, _, _, _, rfl, _⟩ := h; rfl)
      | (obtain ⟨_, _, _, _, _, _, _, _, _, _, _, _, _, _, _, rfl, _⟩ := h; rfl)
      | (obtain ⟨_, _, _, _, _, _, _, _, _, _, _, _, _, _, _, _, rfl, _⟩ := h; rfl)
      | (obtain ⟨_, _, _, _, _, _, _, _, _, _, _, _, _, _, _, _, _, rfl, _⟩ := h; rfl)
      | (obtain ⟨_, _, _, _, _, _, _, _, _, _, _, _, _, _, _, _, _, _, rfl, _⟩ := h; rfl)
      | (obtain ⟨_, _, _, _, _, _, _, _, _, _, _, _, _, _, _, _, _, _, _, rfl, _⟩ := h; rfl)
  · obtain ⟨a, e, ls, rfl, ha, sl, hU, hl, k⟩ := h
    have hsa : SqL K H a (ls.map V.int) := SqL.of ha
    refine ⟨_, (pss_cons (ps_if (PW.pt (pw_or (pt_not (pt_val (pe_callB (k_isi (K := K) rfl) (by rfl) T.n_isinstance (by decide +kernel) (pa_cons (pv 0) (pa_cons (pe_bltn (v := .ty "list") (by rfl) T.n_list (by decide +kernel) rfl) pa_nil))))) (pw_or1 (pt_not (pt_val (pe_callB (k_all (K := K) rfl rfl) (by rfl) T.n_all (by decide +kernel) (pa_cons (pe_lc (own := [("world", 2)]) (g := (gName 2)) (tt := tYes) rfl sc_are_worlds.nd (k_plist (K := K) rfl (pv 0)) (blkOk_by (own := [("world", 2)]) (N := ["thing", "ever", "world"]) (sc := defScope s_are_worlds) (by decide +kernel)) (fun _ _ _ _ _ => (pg_name (i := 2) sc_are_worlds.nd rfl (Or.inl rfl))) (fun _ _ _ _ _ => pts_nil) (fun _ _ _ _ _ => (pe_and (d1 (ok_is_count T) (hr.mono (by decide)) (by rfl) T.m_is_count T.F_is_count.kp T.b_is_count passL (pa_cons (pv 2) pa_nil)) (pe_one (pe_cmpR op_lt (pv 2) (pv 1) (nomark _)))))) pa_nil))))))) (pss_one (ps_ret pe_bl)) pss_nil)
      (pss_one (ps_ret (pe_cmpR (k_eq (K := K) rfl hr.r.units) (pv 0) (pe_callB (k_sortedSet (w := w) rfl rfl) (by rfl) T.n_sorted (by decide +kernel) (pa_cons (pe_callTy (k_setL (K := K) (w := w) rfl rfl rfl) (by rfl) T.n_set (by decide +kernel) (pa_cons (pv 0) pa_nil)) pa_nil)) (nomark _))))), ?_⟩
    dsimp only [cxOf, st_1, st_2, st_3, st_4, st_5, st_6, List.length_cons, List.length_nil, List.replicate_succ, List.replicate_zero, Nat.reduceAdd, Nat.reduceSub]
    walk_at "gs"
    refine i_isD (dp_ints hsa) (show kitB "list" "list" = some true by decide +kernel) ?_
    walk_at "gs"
    refine i_elts hsa (fun R i H' => Kp [] H H' ∧ H' R = some (.lst ((List.replicate i true).map V.bl))) ?_ ?_ ?_ ?_
    · intro R fR
      exact ⟨Kp.new fR, upd_same⟩
    · rintro R i H' fR _ ⟨kk, _⟩
      exact kk.seqL not_nil hsa
    · rintro R i y H' fR hy ⟨kk, hR⟩
      obtain ⟨x, hx, e⟩ := map_get hy
      subst e
      obtain ⟨h0, h1⟩ := hU x (List.mem_of_getElem? hx)
      have hil := (List.getElem?_eq_some_iff.mp hx).1
      walk_at "gs"
      refine ⟨.int x, .int x, rfl, Any.int x, ?_⟩
      rw [show cntD (.int x) = true from decide_eq_true h0]
      walk_at "gs"
      rw [decide_eq_true h1]
      refine ⟨_, hR, small_sz (by rw [List.length_map, List.length_replicate]; omega), Kp.upd kk fR, ?_⟩
      have e : (List.replicate (i + 1) true).map V.bl = (List.replicate i true).map V.bl ++ [V.bl true] := by
        rw [List.replicate_succ', List.map_append]
        rfl
      rw [e]
      exact upd_same
    rintro R H' fR ⟨kk, hR⟩
    have ha2 := kk.at_ _ _ ha not_nil
    walk_at "gs"
    refine i_all (SqL.of hR) ?_
    rw [all_rep]
    walk_at "gs"
    refine ⟨a, ls, rfl, SqL.of ha2, by omega, fun S c fS lc => ?_⟩
    have kS := Kp.new (ws := []) (o := L2.SetO w S (fun j => decide (j ∈ ls)) c) fS
    have hS := fresh_at (o := L2.SetO w S (fun j => decide (j ∈ ls)) c) fS
    have ha3 := kS.at_ _ _ ha2 not_nil
    walk_at "gs"
    refine ⟨S, _, c, rfl, hS, by omega, fun ms p sm mem lm fp => ?_⟩
    have em : ms = ls := lt_uniq sm sl fun x => by rw [mem, decide_eq_true_eq]
    subst em
    have kp := Kp.new (ws := []) (o := .lst (ms.map V.int)) ⟨fp⟩
    walk_at "gs"
    refine eq_ints (SqL.of (kp.at_ _ _ ha3 not_nil)) (SqL.of upd_same) ?_
    rw [decide_eq_true rfl]
    exact k _ (Kp.trans kk (Kp.trans kS kp))
theorem k_setT {X : Cx} {K : PySem.W.Frag} {P : Program} {w : World} (h : X.K = K) (hP : X.prog = P) (hw : X.w = w) (hc : X.calm = true) (hu : X.A.units + 64 < cLine) : CallR X (.type "set") (L2.rSetOfT K P w) := by
  subst h
  subst hP
  subst hw
  exact L2.cr_setOfT hc hu
theorem k_sortedT {X : Cx} {K : PySem.W.Frag} {P : Program} {w : World} (h : X.K = K) (hP : X.prog = P) (hw : X.w = w) (hc : X.calm = true) : CallR X (.builtin "sorted") (L2.rSortedT K P w) := by
  subst h
  subst hP
  subst hw
  exact L2.cr_sortedT hc
/-- the tuples of a list of pairs, where they stand -/
theorem dpa_refs {K : PySem.W.Frag} {H : Hp} : ∀ {xs : List V} {rs : List (Int × Int)}, DpAll K H xs (rs.map d2) → ∃ ks : List (Addr × List Int), xs = ks.map (fun p => V.ref p.1) ∧ (∀ p ∈ ks, SqT K H p.1 (p.2.map V.int)) ∧ ks.map (·.2) = rs.map fun q => [q.1, q.2]
  | _, [], h => by
    cases h
    exact ⟨[], rfl, fun _ z => (nomatch z), rfl⟩
  | _, q :: rs, h => by
    cases h with
    | cons h1 h2 =>
      obtain ⟨t, rfl, hT⟩ := dp_pair h1
      obtain ⟨ks, e1, e2, e3⟩ := dpa_refs h2
      refine ⟨(t, [q.1, q.2]) :: ks, by rw [List.map_cons, e1], fun p hp => ?_, by rw [List.map_cons, List.map_cons, e3]⟩
      rcases List.mem_cons.mp hp with e | hp
      · rw [e]
        exact hT
      · exact e2 p hp
theorem dpa_of_refs {K : PySem.W.Frag} {H : Hp} : ∀ {ks : List (Addr × List Int)} {rs : List (Int × Int)}, (∀ p ∈ ks, SqT K H p.1 (p.2.map V.int)) → ks.map (·.2) = rs.map (fun q => [q.1, q.2]) → DpAll K H (ks.map fun p => V.ref p.1) (rs.map d2)
  | [], [], _, _ => .nil
  | [], _ :: _, _, e => by cases e
  | _ :: _, [], _, e => by cases e
  | p :: ks, q :: rs, h, e => by
    rw [List.map_cons, List.map_cons] at e
    injection e with e1 e2
    rw [List.map_cons, List.map_cons]
    refine .cons (dp_mk2 ?_) (dpa_of_refs (fun r hr => h r (List.mem_cons_of_mem _ hr)) e2)
    have := h p List.mem_cons_self
    rw [e1] at this
    exact this
def sp_prs (K : PySem.W.Frag) : Sp := fun vs H Q _ => ∃ (R W : Addr) (rs : List (Int × Int)) (ws : List Int), vs = [.ref R, .ref W] ∧ LD K H R (rs.map d2) ∧ H W = some (.lst (ws.map V.int)) ∧ rs.Pairwise ltQ ∧ rs.length < 64 ∧ (∀ q ∈ rs, (0 ≤ q.1 ∧ q.1 < q.2 ∧ q.2 < 64) ∧ q.1 ∈ ws ∧ q.2 ∈ ws) ∧ ∀ H', Kp [] H H' → Q (.bl true) H'
theorem sc_are_pairs : FnScope ["thing", "worlds", "row", "world"] ["thing", "worlds"] (defScope s_are_pairs) :=
  ⟨rfl, rfl, rfl, by decide +kernel, rfl, by decide +kernel, by decide +kernel⟩
theorem ok_are_pairs {P : Program} {w : World} {K : PySem.W.Frag} {mg : Str → Option Value} {base : Heap} (T : Txt K mg) :
    FnG P w K mg base 2 T.a_are_pairs T.d_are_pairs ["thing", "worlds"] (sp_prs K) := by
  refine okD T.F_are_pairs sc_are_pairs (fun vs H Q E h => ?_) (fun cdv A outer s H vs Q E hr h => ?_)
  · first
      | (obtain ⟨_, rfl, _⟩ := h; rfl)
      | (obtain ⟨_, _, rfl, _⟩ := h; rfl)
      | (obtain ⟨_, _, _, rfl, _⟩ := h; rfl)
      | (obtain ⟨_, _, _, _, rfl, _⟩ := h; rfl)
      | (obtain ⟨_, _, _, _, _, rfl, _⟩ := h; rfl)
      | (obtain ⟨_, _, _, _, _, _, rfl, _⟩ := h; rfl)
      | (obtain ⟨_, _, _, _, _, _, _, rfl, _⟩ := h; rfl)
      | (obtain ⟨_, _, _, _, _, _, _, _, rfl, _⟩ := h; rfl)
      | (obtain ⟨_, _, _, _, _, _, _, _, _, rfl, _⟩ := h; rfl)
      | (obtain ⟨_, _, _, _, _, _, _, _, _, _, rfl, _⟩ := h; rfl)
      | (obtain ⟨_, _, _, _, _, _, _, _, _, _, _, rfl, _⟩ := h; rfl)
      | (obtain ⟨_, _, _, _, _, _, _, _, _, _, _, _, rfl, _⟩ := h; rfl)
      | (obtain ⟨_, _, _, _, _, _, _, _, _, _, _, _, _, rfl, _⟩ := h; rfl)
      | (obtain ⟨_, _, _, _, _, _, _, _, _, _, _, _, _, _, rfl, _⟩ := h; rfl)
      | (obtain ⟨_, _, _, _, _, _, _, _, _, _, _, _, _, _, _, rfl, _⟩ := h; rfl)
      | (obtain ⟨_, _, _, _, _, _, _, _, _, _, _, _, _, _, _, _, rfl, _⟩ := h; rfl)
      | (obtain ⟨_, _, _, _, _, _, _, _, _, _, _, _, _, _, _, _, _, rfl, _⟩ := h; rfl)
      | (obtain ⟨_, _, _, _, _, _, _, _, _, _, _, _, _, _, _, _, _, _, rfl, _⟩ := h; rfl)
      | (obtain ⟨_, _, _, _, _, _, _, _, _, _, _, _, _, _, _, _, _, _, _, rfl, _⟩ := h; rfl)
  · obtain ⟨R, W, rs, ws, rfl, ld, hW, srt, few, ok, k⟩ := h
    obtain ⟨xs, hxs, hall⟩ := id ld
    have hxl := dpa_len hall
    rw [List.length_map] at hxl
    refine ⟨_, (pss_cons (ps_if (pt_not (pt_val (pe_callB (k_isi (K := K) rfl) (by rfl) T.n_isinstance (by decide +kernel) (pa_cons (pv 0) (pa_cons (pe_bltn (v := .ty "list") (by rfl) T.n_list (by decide +kernel) rfl) pa_nil))))) (pss_one (ps_ret pe_bl)) pss_nil)
      (pss_cons (ps_for (passes_of rfl) rfl (k_plist (K := K) rfl (pv 0)) (pg_name (i := 2) sc_are_pairs.nd rfl (Or.inl rfl))
      (pss_cons (ps_if (PW.pt (pw_or (pt_not (pt_val (pe_callB (k_isi (K := K) rfl) (by rfl) T.n_isinstance (by decide +kernel) (pa_cons (pv 2) (pa_cons (pe_bltn (v := .ty "tuple") (by rfl) T.n_tuple (by decide +kernel) rfl) pa_nil))))) (pw_or (pt_cmpR (k_ne (K := K) rfl hr.r.units) (pe_callB (k_len (K := K) rfl) (by rfl) T.n_len (by decide +kernel) (pa_cons (pv 2) pa_nil)) pe_int (nomark _)) (pw_or1 (pt_not (pt_val (pe_callB (k_all (K := K) rfl rfl) (by rfl) T.n_all (by decide +kernel) (pa_cons (pe_lc (own := [("world", 3)]) (g := (gName 3)) (tt := tYes) rfl sc_are_pairs.nd (k_ptup (K := K) rfl (pv 2)) (blkOk_by (own := [("world", 3)]) (N := ["thing", "worlds", "row", "world"]) (sc := defScope s_are_pairs) (by decide +kernel)) (fun _ _ _ _ _ => (pg_name (i := 3) sc_are_pairs.nd rfl (Or.inl rfl))) (fun _ _ _ _ _ => pts_nil) (fun _ _ _ _ _ => (d1 (ok_is_count T) (hr.mono (by decide)) (by rfl) T.m_is_count T.F_is_count.kp T.b_is_count passL (pa_cons (pv 3) pa_nil)))) pa_nil)))))))) (pss_one (ps_ret pe_bl)) pss_nil)
      (pss_one (ps_if (PW.pt (pw_or (pt_cmpR op_ge (pe_ix (k_ix (K := K) rfl) (pv 2) pe_int (fun _ _ => rfl)) (pe_ix (k_ix (K := K) rfl) (pv 2) pe_int (fun _ _ => rfl)) (nomark _)) (pw_or (pt_cmpR (k_nin (K := K) rfl) (pe_ix (k_ix (K := K) rfl) (pv 2) pe_int (fun _ _ => rfl)) (pv 1) (rfl)) (pw_or1 (pt_cmpR (k_nin (K := K) rfl) (pe_ix (k_ix (K := K) rfl) (pv 2) pe_int (fun _ _ => rfl)) (pv 1) (rfl)))))) (pss_one (ps_ret pe_bl)) pss_nil))))
      (pss_one (ps_ret (pe_cmpR (k_eq (K := K) rfl hr.r.units) (pv 0) (pe_callB (k_sortedT (K := K) (P := P) (w := w) rfl rfl rfl rfl) (by rfl) T.n_sorted (by decide +kernel) (pa_cons (pe_callTy (k_setT (K := K) (P := P) (w := w) rfl rfl rfl rfl hr.r.units) (by rfl) T.n_set (by decide +kernel) (pa_cons (pv 0) pa_nil)) pa_nil)) (nomark _)))))), ?_⟩
    dsimp only [cxOf, st_1, st_2, st_3, st_4, st_5, st_6, List.length_cons, List.length_nil, List.replicate_succ, List.replicate_zero, Nat.reduceAdd, Nat.reduceSub]
    walk_at "gs"
    refine i_isD ld.dp (show kitB "list" "list" = some true by decide +kernel) ?_
    walk_at "gs"
    refine i_each (SqL.of hxs) (fun i σ H' => ∃ o2 : Option V, σ = [some (.ref R), some (.ref W), o2, none] ∧ Kp [] H H') ?_ ?_ ?_ ?_
    · exact ⟨_, rfl, Kp.refl⟩
    · rintro i σ H' _ ⟨_, _, kk⟩
      exact kk.seqL not_nil (SqL.of hxs)
    · rintro i y σ H' hy ⟨o2, rfl, kk⟩
      obtain ⟨dd, hdd, hdp⟩ := dpa_getV hall hy
      obtain ⟨q, hq, rfl⟩ := map_get hdd
      have hdp' := dp_imm kk _ _ rfl hdp
      obtain ⟨t, rfl, hT⟩ := dp_pair hdp'
      obtain ⟨⟨h0, h1, h2⟩, h3, h4⟩ := ok q (List.mem_of_getElem? hq)
      have hW1 : SqL K H' W (ws.map V.int) := SqL.of (kk.at_ _ _ hW not_nil)
      walk_at "gs"
      refine i_isD hdp' (show kitB "tuple" "tuple" = some true by decide +kernel) ?_
      walk_at "gs"
      refine i_decN (fun z => absurd rfl z) (fun _ => ?_)
      walk_at "gs"
      refine i_lcT ?_
      walk_at "gs"
      refine i_eltsT hT (fun L j H2 => Kp [] H' H2 ∧ H2 L = some (.lst ((List.replicate j true).map V.bl))) ?_ ?_ ?_ ?_
      · intro L fL
        exact ⟨Kp.new fL, upd_same⟩
      · rintro L j H2 fL _ ⟨k2, _⟩
        exact k2.seqT hT
      · rintro L j y H2 fL hy ⟨k2, hL⟩
        have e : ∃ n : Int, y = .int n ∧ 0 ≤ n := by
          match j, hy with
          | 0, h => exact ⟨q.1, (Option.some.inj h).symm, h0⟩
          | 1, h => exact ⟨q.2, (Option.some.inj h).symm, by omega⟩
        obtain ⟨n, rfl, n0⟩ := e
        have hjl := (List.getElem?_eq_some_iff.mp hy).1
        have hj2 : j < 2 := hjl
        walk_at "gs"
        refine ⟨.int n, .int n, rfl, Any.int n, ?_⟩
        rw [show cntD (.int n) = true from decide_eq_true n0]
        refine ⟨_, hL, small_sz (by rw [List.length_map, List.length_replicate]; omega), Kp.upd k2 fL, ?_⟩
        have e : (List.replicate (j + 1) true).map V.bl = (List.replicate j true).map V.bl ++ [V.bl true] := by
          rw [List.replicate_succ', List.map_append]
          rfl
        rw [e]
        exact upd_same
      rintro L H2 fL ⟨k2, hL⟩
      have hT2 : SqT K H2 t [V.int q.1, V.int q.2] := k2.seqT hT
      have hW2 : SqL K H2 W (ws.map V.int) := SqL.of ((Kp.trans kk k2).at_ _ _ hW not_nil)
      walk_at "gs"
      refine i_all (SqL.of hL) ?_
      rw [all_rep]
      walk_at "gs"
      refine i_dec (fun z => absurd z (by omega)) (fun _ => ?_)
      walk_at "gs"
      refine i_decN (fun z => absurd h3 z) (fun _ => ?_)
      walk_at "gs"
      refine i_decN (fun z => absurd h4 z) (fun _ => ?_)
      walk_at "gs"
      exact ⟨_, rfl, Kp.trans kk k2⟩
    rintro σ H' ⟨o2, rfl, kk⟩
    have hx2 := kk.at_ _ _ hxs not_nil
    have ld2 := ld.kp kk (imms_d2 _) not_nil
    have hall2 := dpa_imm kk _ _ (imms_d2 _) hall
    obtain ⟨ks, e1, e2, e3⟩ := dpa_refs hall2
    have lk : ks.length = rs.length := by
      have := congrArg List.length e3
      rw [List.length_map, List.length_map] at this
      exact this
    walk_at "gs"
    refine ⟨R, ks, rfl, by rw [← e1]; exact SqL.of hx2, e2, by omega, fun S L fS sub all => ?_⟩
    have kS := Kp.new (ws := []) (o := L2.SetTO P w S L) ⟨fS⟩
    have hS := fresh_at (H := H') (p := S) (o := L2.SetTO P w S L) ⟨fS⟩
    have inr : ∀ p ∈ ks, ∃ q ∈ rs, p.2 = [q.1, q.2] := fun p hp => by
      have h : p.2 ∈ ks.map (·.2) := List.mem_map.mpr ⟨p, hp, rfl⟩
      rw [e3] at h
      obtain ⟨q, hq, e⟩ := List.mem_map.mp h
      exact ⟨q, hq, e.symm⟩
    walk_at "gs"
    refine ⟨S, L, 2, 64, rfl, hS, fun p hp => kS.seqT (e2 p (sub p hp)), by decide, fun p hp => ?_, fun L' p pm nd2 few2 code fp => ?_⟩
    · obtain ⟨q, hq, e⟩ := inr p (sub p hp)
      obtain ⟨⟨a, b, c⟩, _⟩ := ok q hq
      rw [e]
      refine ⟨rfl, fun y hy => ?_⟩
      simp only [List.mem_cons, List.not_mem_nil, or_false] at hy
      omega
    have kp := Kp.new (ws := []) (o := .lst (L'.map fun q => V.ref q.1)) ⟨fp⟩
    have inL' : ∀ p ∈ L', p ∈ ks ∧ ∃ q ∈ rs, p.2 = [q.1, q.2] := fun p hp => by
      have h := sub p (pm.mem_iff.mp hp)
      exact ⟨h, inr p h⟩
    obtain ⟨rs2, er⟩ : ∃ rs2 : List (Int × Int), rs2 = L'.map fun p => (p.2.getD 0 0, p.2.getD 1 0) := ⟨_, rfl⟩
    have e5 : L'.map (·.2) = rs2.map fun q => [q.1, q.2] := by
      rw [er, List.map_map]
      refine List.map_congr_left fun p hp => ?_
      obtain ⟨_, q, _, e⟩ := inL' p hp
      show p.2 = [p.2.getD 0 0, p.2.getD 1 0]
      rw [e]
      rfl
    have m5 : ∀ q, q ∈ rs2 ↔ q ∈ rs := fun q => by
      rw [er, List.mem_map]
      constructor
      · rintro ⟨p, hp, rfl⟩
        obtain ⟨_, r, hr2, e⟩ := inL' p hp
        rw [e]
        exact hr2
      · intro hq
        have h : [q.1, q.2] ∈ ks.map (·.2) := by
          rw [e3]
          exact List.mem_map.mpr ⟨q, hq, rfl⟩
        obtain ⟨p, hp, e⟩ := List.mem_map.mp h
        obtain ⟨p2, hp2, e6⟩ := List.mem_map.mp (all p hp)
        refine ⟨p2, pm.mem_iff.mpr hp2, ?_⟩
        have e6 : p2.2 = p.2 := e6
        have e : p.2 = [q.1, q.2] := e
        rw [e6, e]
        rfl
    have srt2 : rs2.Pairwise ltQ := by
      rw [er]
      refine List.pairwise_map.mpr ((code.and (List.pairwise_map.mp nd2)).imp_of_mem fun {x y} hx hy z => ?_)
      obtain ⟨_, q, hq, e⟩ := inL' x hx
      obtain ⟨_, r, hr2, e'⟩ := inL' y hy
      obtain ⟨⟨a, b, c⟩, _⟩ := ok q hq
      obtain ⟨⟨a', b', c'⟩, _⟩ := ok r hr2
      obtain ⟨z1, z2⟩ := z
      rw [e, e'] at z1 z2 ⊢
      have lt := L2.pair_lt z1 z2 ⟨a, by omega⟩ ⟨by omega, c⟩ ⟨a', by omega⟩ ⟨by omega, c'⟩
      exact lt
    have ers : rs2 = rs := ltQ_uniq srt2 srt m5
    subst ers
    have kSp := Kp.trans kS kp
    have dall : DpAll K _ (L'.map fun p => V.ref p.1) (rs2.map d2) := dpa_of_refs (fun q hq => kSp.seqT (e2 q (inL' q hq).1)) e5
    walk_at "gs"
    refine i_eqD (ld2.kp kSp (imms_d2 _) not_nil).dp (.lst (SqL.of upd_same) dall) (shaped_pairs _) (shaped_pairs _) ?_
    simp only [PyData.eqv]
    rw [eqv_pairsT, decide_eq_true rfl]
    exact k _ (Kp.trans kk kSp)

/-! ### has, tied; the one who is refused -/
theorem Any.tg {K : PySem.W.Frag} {H : Hp} {ws : List Addr} {v : V} {d : PyData} (t : Tg K H ws v d) : Any K H v d := ⟨t.ty, fun n e => by
  subst e
  rcases t with h | ⟨e, _⟩
  · cases h
    rfl
  · cases e⟩
theorem Tg.int {K : PySem.W.Frag} {H : Hp} {ws : List Addr} (n : Int) : Tg K H ws (.int n) (.int n) := .inl (.int n)
def sp_thas (K : PySem.W.Frag) (C : Addr) : Sp := fun vs H Q _ => ∃ (t : Addr) (ps : List Addr) (ever : Int) (liv ks : List Int) (nb : Int → List Int) (v : V) (d : PyData), vs = [.ref t, v] ∧ TiesAt C H t ps ever liv ks nb ∧ Any K H v d ∧ Q (.bl (inL ks d)) H
theorem sc_Ties_has : FnScope ["self", "thing"] ["self", "thing"] (defScope s_Ties_has) :=
  ⟨rfl, rfl, rfl, by decide +kernel, rfl, by decide +kernel, by decide +kernel⟩
theorem ok_Ties_has {P : Program} {w : World} {K : PySem.W.Frag} {mg : Str → Option Value} {base : Heap} (T : Txt K mg) :
    FnG P w K mg base 2 T.a_Ties_has T.d_Ties_has ["self", "thing"] (sp_thas K T.c_Ties) := by
  refine okD T.F_Ties_has sc_Ties_has (fun vs H Q E h => ?_) (fun cdv A outer s H vs Q E hr h => ?_)
  · first
      | (obtain ⟨_, rfl, _⟩ := h; rfl)
      | (obtain ⟨_, _, rfl, _⟩ := h; rfl)
      | (obtain ⟨_, _, _, rfl, _⟩ := h; rfl)
      | (obtain ⟨_, _, _, _, rfl, _⟩ := h; rfl)
      | (obtain ⟨_, _, _, _, _, rfl, _⟩ := h; rfl)
      | (obtain ⟨_, _, _, _, _, _, rfl, _⟩ := h; rfl)
      | (obtain ⟨_, _, _, _, _, _, _, rfl, _⟩ := h; rfl)
      | (obtain ⟨_, _, _, _, _, _, _, _, rfl, _⟩ := h; rfl)
      | (obtain ⟨_, _, _, _, _, _, _, _, _, rfl, _⟩ := h; rfl)
      | (obtain ⟨_, _, _, _, _, _, _, _, _, _, rfl, _⟩ := h; rfl)
      | (obtain ⟨_, _, _, _, _, _, _, _, _, _, _, rfl, _⟩ := h; rfl)
      | (obtain ⟨_, _, _, _, _, _, _, _, _, _, _, _, rfl, _⟩ := h; rfl)
      | (obtain ⟨_, _, _, _, _, _, _, _, _, _, _, _, _, rfl, _⟩ := h; rfl)
      | (obtain ⟨_, _, _, _, _, _, _, _, _, _, _, _, _, _, rfl, _⟩ := h; rfl)
      | (obtain ⟨_, _, _, _, _, _, _, _, _, _, _, _, _, _, _, rfl, _⟩ := h; rfl)
      | (obtain ⟨_, _, _, _, _, _, _, _, _, _, _, _, _, _, _, _, rfl, _⟩ := h; rfl)
      | (obtain ⟨_, _, _, _, _, _, _, _, _, _, _, _, _, _, _, _, _, rfl, _⟩ := h; rfl)
      | (obtain ⟨_, _, _, _, _, _, _, _, _, _, _, _, _, _, _, _, _, _, rfl, _⟩ := h; rfl)
      | (obtain ⟨_, _, _, _, _, _, _, _, _, _, _, _, _, _, _, _, _, _, _, rfl, _⟩ := h; rfl)
  · obtain ⟨t, ps, ever, liv, ks, nb, v, d, rfl, ⟨lv, nd, dx, rep, x, rfl, rfl⟩, hd, k⟩ := h
    obtain ⟨ht, hl, hn, hra, ad, nk⟩ := x
    have cl_Ties := T.cl_Ties
    have na_Ties_near := T.na_Ties_near
    have na_Ties_own_ever := T.na_Ties_own_ever
    have na_Ties_own_living := T.na_Ties_own_living
    refine ⟨_, (pss_one (ps_ret (pe_and (d1 (ok_is_count T) (hr.mono (by decide)) (by rfl) T.m_is_count T.F_is_count.kp T.b_is_count passL (pa_cons (pv 1) pa_nil)) (pe_one (pe_cmp (pc_din (u1 hr.r.units) (pv 1) (k_fld (K := K) rfl (pv 0) rfl))))))), ?_⟩
    dsimp only [cxOf, st_1, st_2, st_3, st_4, st_5, st_6, List.length_cons, List.length_nil, List.replicate_succ, List.replicate_zero, Nat.reduceAdd, Nat.reduceSub]
    walk_at "gs"
    refine ⟨v, d, rfl, hd, ?_⟩
    walk_at "gs"
    refine i_bool2 (fun c => ?_) (fun c => ?_)
    · obtain ⟨n, rfl, h0⟩ := cnt_int c
      obtain rfl := hd.2 n rfl
      walk_at "gs"
      rw [val_in nk]
      have e : inL (rep.map (·.1)) (.int n) = decide (n ∈ rep.map (·.1)) := by
        show decide (0 ≤ n ∧ n ∈ rep.map (·.1)) = _
        by_cases c : n ∈ rep.map (·.1) <;> simp [c, h0]
      rw [e] at k
      exact k
    · rw [inL_no c] at k
      exact k
theorem inL_int {l : List Int} {d : PyData} (h : inL l d = true) : ∃ n, d = .int n ∧ n ∈ l := by
  cases d <;> first | (cases h; done) | exact ⟨_, rfl, (of_decide_eq_true h).2⟩

theorem has_int {K : PySem.W.Frag} {C : Addr} {t : Addr} {ps : List Addr} {ever n : Int} {liv ks : List Int} {nb : Int → List Int} {H : Hp} {Q : VK} {E : XK} (x : TiesAt C H t ps ever liv ks nb) (h0 : 0 ≤ n) (h : Q (.bl (decide (n ∈ ks))) H) :
    sp_thas K C [.ref t, .int n] H Q E := ⟨t, ps, ever, liv, ks, nb, .int n, .int n, rfl, x, .int n, by
  have e : inL ks (.int n) = decide (n ∈ ks) := by
    show decide (0 ≤ n ∧ n ∈ ks) = _
    by_cases c : n ∈ ks <;> simp [c, h0]
  rw [e]
  exact h⟩

def sp_ttied0 (C : Addr) : Sp := fun vs H Q _ => ∃ (D : Int → Int → Int) (t : Addr) (ps : List Addr) (ever : Int) (liv ks : List Int) (nb : Int → List Int) (w : Int), vs = [.ref t, .int w] ∧ TiesAt C H t ps ever liv ks nb ∧ Tr3 D ever liv ks nb ∧ ever ≤ 200 ∧ w ∈ ks ∧
  ∀ R (fs : List Int) H', Fr H R → Kp [] H H' → H' R = some (.lst (fs.map V.int)) → fs.Pairwise (· < ·) → (∀ x, x ∈ fs ↔ x ∈ nb w) → Q (.ref R) H'
theorem sc_Ties_tied : FnScope ["self", "world"] ["self", "world"] (defScope s_Ties_tied) :=
  ⟨rfl, rfl, rfl, by decide +kernel, rfl, by decide +kernel, by decide +kernel⟩
theorem ok_Ties_tied {P : Program} {w : World} {K : PySem.W.Frag} {mg : Str → Option Value} {base : Heap} (T : Txt K mg) :
    FnG P w K mg base 3 T.a_Ties_tied T.d_Ties_tied ["self", "world"] (sp_ttied0 T.c_Ties) := by
  refine okD T.F_Ties_tied sc_Ties_tied (fun vs H Q E h => ?_) (fun cdv A outer s H vs Q E hr h => ?_)
  · first
      | (obtain ⟨_, rfl, _⟩ := h; rfl)
      | (obtain ⟨_, _, rfl, _⟩ := h; rfl)
      | (obtain ⟨_, _, _, rfl, _⟩ := h; rfl)
      | (obtain ⟨_, _, _, _, rfl, _⟩ := h; rfl)
      | (obtain ⟨_, _, _, _, _, rfl, _⟩ := h; rfl)
      | (obtain ⟨_, _, _, _, _, _, rfl, _⟩ := h; rfl)
      | (obtain ⟨_, _, _, _, _, _, _, rfl, _⟩ := h; rfl)
      | (obtain ⟨_, _, _, _, _, _, _, _, rfl, _⟩ := h; rfl)
      | (obtain ⟨_, _, _, _, _, _, _, _, _, rfl, _⟩ := h; rfl)
      | (obtain ⟨_, _, _, _, _, _, _, _, _, _, rfl, _⟩ := h; rfl)
      | (obtain ⟨_, _, _, _, _, _, _, _, _, _, _, rfl, _⟩ := h; rfl)
      | (obtain ⟨_, _, _, _, _, _, _, _, _, _, _, _, rfl, _⟩ := h; rfl)
      | (obtain ⟨_, _, _, _, _, _, _, _, _, _, _, _, _, rfl, _⟩ := h; rfl)
      | (obtain ⟨_, _, _, _, _, _, _, _, _, _, _, _, _, _, rfl, _⟩ := h; rfl)
      | (obtain ⟨_, _, _, _, _, _, _, _, _, _, _, _, _, _, _, rfl, _⟩ := h; rfl)
      | (obtain ⟨_, _, _, _, _, _, _, _, _, _, _, _, _, _, _, _, rfl, _⟩ := h; rfl)
      | (obtain ⟨_, _, _, _, _, _, _, _, _, _, _, _, _, _, _, _, _, rfl, _⟩ := h; rfl)
      | (obtain ⟨_, _, _, _, _, _, _, _, _, _, _, _, _, _, _, _, _, _, rfl, _⟩ := h; rfl)
      | (obtain ⟨_, _, _, _, _, _, _, _, _, _, _, _, _, _, _, _, _, _, _, rfl, _⟩ := h; rfl)
  · obtain ⟨D, t, ps, ever, liv, ks, nb, w, rfl, x0, z, he, hw, k⟩ := h
    obtain ⟨lv, nd, dx, rep, x, rfl, rfl⟩ := id x0
    obtain ⟨ht, hl, hn, hra, ad, nk⟩ := id x
    have cl_Ties := T.cl_Ties
    have na_Ties_near := T.na_Ties_near
    have na_Ties_own_ever := T.na_Ties_own_ever
    have na_Ties_own_living := T.na_Ties_own_living
    refine ⟨_, (pss_cons (ps_if (pt_not (pt_val (dm T.cl_Ties T.me_Ties_has (ok_Ties_has T) (hr.mono (by decide)) T.b_Ties_has passL (pv 0) (pa_cons (pv 1) pa_nil)))) (pss_one ps_never) pss_nil)
      (pss_one (ps_ret (pe_callB (k_sorted (K := K) rfl) (by rfl) T.n_sorted (by decide +kernel) (pa_cons (pe_dget (u1 hr.r.units) (k_fld (K := K) rfl (pv 0) rfl) (pv 1) (fun _ _ => rfl)) pa_nil))))), ?_⟩
    dsimp only [cxOf, st_1, st_2, st_3, st_4, st_5, st_6, List.length_cons, List.length_nil, List.replicate_succ, List.replicate_zero, Nat.reduceAdd, Nat.reduceSub]
    walk_at "gs"
    refine has_int x0 (z.hU w hw).1 ?_
    rw [decide_eq_true hw]
    obtain ⟨a, ha, haw⟩ := x.mem hw
    walk_at "gs"
    refine i_dg hn (val_rep nk ha) ?_
    walk_at "gs"
    refine i_sorted (SqL.of haw) fun fs p pm pw fp => ?_
    exact k p fs _ fp (Kp.new fp) upd_same (strict_of pm (z.rp.nd w hw) pw) fun x => pm.mem_iff

/-! ### spread, way -/
def kI (q : Int × Int) : Key × V := (.inl q.1, .int q.2)
theorem val_kI {w y : Int} : ∀ {vis : List (Int × Int)}, (vis.map (·.1)).Nodup → (w, y) ∈ vis → valV (vis.map kI) (.inl w) = some (.int y)
  | p :: vis, n, h => by
    rw [List.map_cons, List.nodup_cons] at n
    rcases List.mem_cons.mp h with e | h
    · rw [← e, List.map_cons]
      exact valV_pos rfl
    · rw [List.map_cons, valV_neg (fun z => ?_)]
      · exact val_kI n.2 h
      · have z : (Sum.inl p.1 : Key) = .inl w := z
        injection z with z
        exact n.1 (by rw [z]; exact List.mem_map.mpr ⟨_, h, rfl⟩)
theorem val_kI_none {w : Int} : ∀ {vis : List (Int × Int)}, w ∉ vis.map (·.1) → valV (vis.map kI) (.inl w) = none
  | [], _ => rfl
  | p :: vis, h => by
    rw [List.map_cons, List.mem_cons, not_or] at h
    rw [List.map_cons, valV_neg (fun z => ?_)]
    · exact val_kI_none h.2
    · have z : (Sum.inl p.1 : Key) = .inl w := z
      injection z with z
      exact h.1 z.symm
theorem val_kI_in {w : Int} {vis : List (Int × Int)} (n : (vis.map (·.1)).Nodup) : (valV (vis.map kI) (.inl w)).isSome = decide (w ∈ vis.map (·.1)) := by
  by_cases c : w ∈ vis.map (·.1)
  · obtain ⟨p, hp, rfl⟩ := List.mem_map.mp c
    rw [val_kI (w := p.1) (y := p.2) n hp, decide_eq_true c]
    rfl
  · rw [val_kI_none c, decide_eq_false c]
    rfl
theorem put_kI {w y : Int} {vis : List (Int × Int)} (h : w ∉ vis.map (·.1)) : putK (vis.map kI) (.inl w) (.int y) = (vis ++ [(w, y)]).map kI := by
  rw [putK_new _ (val_kI_none h), List.map_append]
  rfl
def DispK (p : Addr) (Q : VK) (k v : V) (H2 : Hp) : Prop := H2 p = some (.dK []) ∧ ∃ kvs : List (Key × V), [(k, v)] = kvs.map (fun kv => (kV kv.1, kv.2)) ∧ kvs.length ≤ 15 ∧ Q (.ref p) (upd H2 p (.dK (mergeK [] kvs)))
theorem i_disp1v {σ : L2.St} {H : Hp} {Q : VK} {i j : Nat} (q : ∀ p, Fr H p → tVar i σ (upd H p (.dK [])) fun k H1 => tVar j σ H1 fun v H2 => DispK p Q k v H2) : tDisp [(tVar i, tVar j)] σ H Q := fun p hp => q p ⟨hp⟩
theorem i_dispK {H2 : Hp} {Q : VK} {n : Int} {p : Addr} {v : V} (h : H2 p = some (.dK [])) (q : Q (.ref p) (upd H2 p (.dK [(.inl n, v)]))) : DispK p Q (.int n) v H2 := ⟨h, [(.inl n, v)], rfl, by rw [List.length_singleton]; decide, q⟩
def sp_tspread (C : Addr) : Sp := fun vs H Q _ => ∃ (D : Int → Int → Int) (t : Addr) (ps : List Addr) (ever : Int) (liv ks : List Int) (nb : Int → List Int) (goal : Int), vs = [.ref t, .int goal] ∧ TiesAt C H t ps ever liv ks nb ∧ Tr3 D ever liv ks nb ∧ ever ≤ 200 ∧ goal ∈ ks ∧
  ∀ R (vis : List (Int × Int)) H', Fr H R → Kp [] H H' → H' R = some (.dK (vis.map kI)) → Met D ks nb goal vis → (∀ x, x ∈ vis.map (·.1) ↔ x ∈ ks) → Q (.ref R) H'
theorem sc_Ties_spread : FnScope ["self", "goal", "ahead", "waiting", "here", "there"] ["self", "goal"] (defScope s_Ties_spread) :=
  ⟨rfl, rfl, rfl, by decide +kernel, rfl, by decide +kernel, by decide +kernel⟩
theorem ok_Ties_spread {P : Program} {w : World} {K : PySem.W.Frag} {mg : Str → Option Value} {base : Heap} (T : Txt K mg) :
    FnG P w K mg base 1 T.a_Ties_spread T.d_Ties_spread ["self", "goal"] (sp_tspread T.c_Ties) := by
  refine okD T.F_Ties_spread sc_Ties_spread (fun vs H Q E h => ?_) (fun cdv A outer s H vs Q E hr h => ?_)
  · first
      | (obtain ⟨_, rfl, _⟩ := h; rfl)
      | (obtain ⟨_, _, rfl, _⟩ := h; rfl)
      | (obtain ⟨_, _, _, rfl, _⟩ := h; rfl)
      | (obtain ⟨_, _, _, _, rfl, _⟩ := h; rfl)
      | (obtain ⟨_, _, _, _, _, rfl, _⟩ := h; rfl)
      | (obtain ⟨_, _, _, _, _, _, rfl, _⟩ := h; rfl)
      | (obtain ⟨_, _, _, _, _, _, _, rfl, _⟩ := h; rfl)
      | (obtain ⟨_, _, _, _, _, _, _, _, rfl, _⟩ := h; rfl)
      | (obtain ⟨_, _, _, _, _, _, _, _, _, rfl, _⟩ := h; rfl)
      | (obtain ⟨_, _, _, _, _, _, _, _, _, _, rfl, _⟩ := h; rfl)
      | (obtain ⟨_, _, _, _, _, _, _, _, _, _, _, rfl, _⟩ := h; rfl)
      | (obtain ⟨_, _, _, _, _, _, _, _, _, _, _, _, rfl, _⟩ := h; rfl)
      | (obtain ⟨_, _, _, _, _, _, _, _, _, _, _, _, _, rfl, _⟩ := h; rfl)
      | (obtain ⟨_, _, _, _, _, _, _, _, _, _, _, _, _, _, rfl, _⟩ := h; rfl)
      | (obtain ⟨_, _, _, _, _, _, _, _, _, _, _, _, _, _, _, rfl, _⟩ := h; rfl)
      | (obtain ⟨_, _, _, _, _, _, _, _, _, _, _, _, _, _, _, _, rfl, _⟩ := h; rfl)
      | (obtain ⟨_, _, _, _, _, _, _, _, _, _, _, _, _, _, _, _, _, rfl, _⟩ := h; rfl)
      | (obtain ⟨_, _, _, _, _, _, _, _, _, _, _, _, _, _, _, _, _, _, rfl, _⟩ := h; rfl)
      | (obtain ⟨_, _, _, _, _, _, _, _, _, _, _, _, _, _, _, _, _, _, _, rfl, _⟩ := h; rfl)
  · obtain ⟨D, t, ps, ever, liv, ks, nb, goal, rfl, x0, z, he, hg, k⟩ := h
    have klen := z.klen
    have x1 := x0
    obtain ⟨lv, nd, dx, rep, x, eps, eks⟩ := id x0
    obtain ⟨ht, hl, hn, hra, ad, nk⟩ := id x
    have cl_Ties := T.cl_Ties
    have na_Ties_near := T.na_Ties_near
    have na_Ties_own_ever := T.na_Ties_own_ever
    have na_Ties_own_living := T.na_Ties_own_living
    refine ⟨_, (pss_cons (ps_set (i := 2) sc_Ties_spread.nd rfl (Or.inl rfl) (pe_disp (pps_cons (pv 1) (pv 1) pps_nil) (by rfl) (by rfl) (fun z => by cases z) (by decide)))
      (pss_cons (ps_set (i := 3) sc_Ties_spread.nd rfl (Or.inl rfl) (pe_lst (pa_cons (pv 1) pa_nil)))
      (pss_cons (ps_while (passes_of rfl) (pt_cmpR (k_ne (K := K) rfl hr.r.units) (pv 3) (pe_lst pa_nil) (nomark _)) (pss_cons (ps_set (i := 4) sc_Ties_spread.nd rfl (Or.inl rfl) (pe_bm0 PySem.F.plainAttrs_list PySem.F.slot_list_pop PySem.F.type_list_pop mt_pop (pv 3)))
      (pss_one (ps_for (passes_of rfl) rfl (k_plist (K := K) rfl (pe_dget (u1 hr.r.units) (k_fld (K := K) rfl (pv 0) rfl) (pv 4) (fun _ _ => rfl))) (pg_name (i := 5) sc_Ties_spread.nd rfl (Or.inl rfl))
      (pss_one (ps_if (pt_cmp (pc_dnotin (u1 hr.r.units) (pv 5) (pv 2))) (pss_cons (ps_asg (pv 4) (pg_sub (pv 2) (pv 5) (set_dict (u1 hr.r.units))))
      (pss_one (ps_expr (pe_bm PySem.F.plainAttrs_list PySem.F.slot_list_append PySem.F.type_list_append mt_append (pv 3) (pa_cons (pv 5) pa_nil))))) pss_nil))))))
      (pss_one (ps_ret (pv 2)))))), ?_⟩
    dsimp only [cxOf, st_1, st_2, st_3, st_4, st_5, st_6, List.length_cons, List.length_nil, List.replicate_succ, List.replicate_zero, Nat.reduceAdd, Nat.reduceSub]
    walk_at "gs"
    refine i_disp1v fun A fA => ?_
    walk_at "gs"
    refine i_dispK upd_same ?_
    walk_at "gs"
    refine i_new fun W fW => ?_
    walk_at "gs"
    have kA : Kp [] H (upd (upd H A (.dK [])) A (.dK [(.inl goal, .int goal)])) := Kp.upd (Kp.new fA) fA
    have fW0 : Fr H W := kA.free fW
    have nAW : A ≠ W := fr_ne upd_same fW
    refine i_while (fun m σ H' => ∃ (o4 o5 : Option V) (vis : List (Int × Int)) (wait : List Int), m = 2 * (ks.length - vis.length) + wait.length ∧ σ = [some (.ref t), some (.int goal), some (.ref A), some (.ref W), o4, o5] ∧
      Kp [] H H' ∧ H' A = some (.dK (vis.map kI)) ∧ H' W = some (.lst (wait.map V.int)) ∧ Met D ks nb goal vis ∧ (∀ x ∈ wait, x ∈ vis.map (·.1)) ∧ (∀ x ∈ vis.map (·.1), x ∉ wait → ∀ y ∈ nb x, y ∈ vis.map (·.1)) ∧ wait.length ≤ vis.length) (2 * (ks.length - 1) + 1) ?_ ?_
    · exact ⟨_, _, [(goal, goal)], [goal], rfl, rfl, Kp.upd kA fW0, by rw [upd_ne nAW]; exact upd_same, upd_same, Met.start hg, fun x hx => hx, fun x hx n => absurd hx n, Nat.le_refl _⟩
    rintro m σ H2 ⟨o4, o5, vis, wait, rfl, rfl, k2, hA2, hW2, met, ws, cl, wl⟩
    have ml := met.len
    have ht2 := k2.at_ _ _ ht not_nil
    walk_at "gs"
    refine i_new fun q fq => ?_
    have kq : Kp [] H2 (upd H2 q (.lst [])) := Kp.new fq
    have hW3 := kq.at_ _ _ hW2 not_nil
    have hA3 := kq.at_ _ _ hA2 not_nil
    walk_at "gs"
    refine ne_ints0 (SqL.of hW3) upd_same ?_
    walk_at "gs"
    refine i_decN (fun c => ?_) (fun c => ?_)
    · refine i_loop ?_
      obtain ⟨w2, here, rfl⟩ : ∃ ws y, wait = ws ++ [y] := ⟨_, _, (List.dropLast_concat_getLast c).symm⟩
      have hW3' : (upd H2 q (.lst [])) W = some (.lst (w2.map V.int ++ [V.int here])) := by rw [snoc_int]; exact hW3
      rw [List.length_append, List.length_singleton] at wl
      have hk : here ∈ vis.map (·.1) := ws here (List.mem_append.mpr (.inr (List.mem_singleton.mpr rfl)))
      have hks : here ∈ rep.map (·.1) := by
        obtain ⟨r, hr2, e⟩ := List.mem_map.mp hk
        rw [← eks, ← e]
        exact met.sub r hr2
      obtain ⟨a, ha, haw⟩ := x.mem hks
      have k03 : Kp [] H (upd H2 q (.lst [])) := Kp.trans k2 kq
      have k04 : Kp [] H (upd (upd H2 q (.lst [])) W (.lst (w2.map V.int))) := Kp.upd k03 fW0
      have hA4 : (upd (upd H2 q (.lst [])) W (.lst (w2.map V.int))) A = some (.dK (vis.map kI)) := by rw [upd_ne nAW]; exact hA3
      have ht4 := k04.at_ _ _ ht not_nil
      walk_at "gs"
      refine i_popV hW3' ?_
      walk_at "gs"
      refine i_dg (k04.at_ _ _ hn not_nil) (val_rep nk ha) ?_
      refine i_each (SqL.of (k04.at_ _ _ haw not_nil)) (fun j σ H' => ∃ (o5 : Option V) (vis2 : List (Int × Int)) (wait2 : List Int), σ = [some (.ref t), some (.int goal), some (.ref A), some (.ref W), some (.int here), o5] ∧
        Kp [] H H' ∧ H' A = some (.dK (vis2.map kI)) ∧ H' W = some (.lst (wait2.map V.int)) ∧ Met D ks nb goal vis2 ∧ here ∈ vis2.map (·.1) ∧ (∀ x ∈ wait2, x ∈ vis2.map (·.1)) ∧ (∀ x ∈ vis2.map (·.1), x ∉ wait2 → x ≠ here → ∀ y ∈ nb x, y ∈ vis2.map (·.1)) ∧
        (∀ y ∈ (nb here).take j, y ∈ vis2.map (·.1)) ∧ wait2.length ≤ vis2.length ∧ 2 * (ks.length - vis2.length) + wait2.length < 2 * (ks.length - vis.length) + (w2 ++ [here]).length) ?_ ?_ ?_ ?_
      · refine ⟨_, vis, w2, rfl, k04, hA4, upd_same, met, hk, fun x hx => ws x (List.mem_append.mpr (.inl hx)), fun x hx n n2 => cl x hx fun h => ?_, fun y hy => ?_, by omega, by rw [List.length_append, List.length_singleton]; omega⟩
        · rcases List.mem_append.mp h with h | h
          · exact n h
          · exact n2 (List.mem_singleton.mp h)
        · rw [List.take_zero] at hy
          cases hy
      · rintro j σ H' _ ⟨_, _, _, _, k5, _⟩
        exact k5.seqL not_nil (SqL.of haw)
      · rintro j y σ H' hy ⟨o5, vis2, wait2, rfl, k5, hA5, hW5, met5, hk5, ws5, cl5, tk5, wl5, ms5⟩
        obtain ⟨u, hu, e⟩ := map_get hy
        subst e
        have hum : u ∈ nb here := List.mem_of_getElem? hu
        have ml5 := met5.len
        have step : ∀ {P : List Int}, (∀ y ∈ (nb here).take j, y ∈ P) → u ∈ P → ∀ y ∈ (nb here).take (j + 1), y ∈ P := fun {P} h1 h2 y hy => by
          rw [List.take_add_one, hu] at hy
          rcases List.mem_append.mp hy with h | h
          · exact h1 y h
          · have e : y = u := by simpa using h
            rw [e]
            exact h2
        walk_at "gs"
        rw [val_kI_in met5.nv]
        refine i_decN (fun c => ?_) (fun c => ?_)
        · have hlen : (vis2.map kI).length ≤ 1000000 := by rw [List.length_map]; omega
          walk_at "gs"
          refine i_setK hA5 hlen ?_
          rw [put_kI c]
          have hW6 : (upd H' A (.dK ((vis2 ++ [(u, here)]).map kI))) W = some (.lst (wait2.map V.int)) := by rw [upd_ne (Ne.symm nAW)]; exact hW5
          walk_at "gs"
          refine i_app hW6 (small_sz (by rw [List.length_map]; omega)) ?_
          rw [snoc_int]
          have met6 := met5.add z hg hk5 hum c
          have ml6 := met6.len
          have up : ∀ {x}, x ∈ vis2.map (·.1) → x ∈ (vis2 ++ [(u, here)]).map (·.1) := fun {x} h => by rw [List.map_append]; exact List.mem_append.mpr (.inl h)
          have uin : u ∈ (vis2 ++ [(u, here)]).map (·.1) := by rw [List.map_append]; exact List.mem_append.mpr (.inr (List.mem_singleton.mpr rfl))
          rw [List.length_append, List.length_singleton] at ml6
          walk_at "gs"
          refine ⟨_, vis2 ++ [(u, here)], wait2 ++ [u], rfl, Kp.upd (Kp.upd k5 fA) fW0, by rw [upd_ne nAW]; exact upd_same, upd_same, met6, up hk5, fun x hx => ?_, fun x hx n n2 y hy2 => ?_, step (fun y hy => up (tk5 y hy)) uin, by rw [List.length_append, List.length_append, List.length_singleton, List.length_singleton]; omega, by rw [List.length_append (as := vis2), List.length_append (as := wait2), List.length_singleton, List.length_singleton]; omega⟩
          · rcases List.mem_append.mp hx with h | h
            · exact up (ws5 x h)
            · rw [List.mem_singleton.mp h]
              exact uin
          · rw [List.map_append] at hx
            rcases List.mem_append.mp hx with h | h
            · exact up (cl5 x h (fun z => n (List.mem_append.mpr (.inl z))) n2 y hy2)
            · exact absurd (List.mem_append.mpr (.inr h)) n
        · walk_at "gs"
          exact ⟨_, vis2, wait2, rfl, k5, hA5, hW5, met5, hk5, ws5, cl5, step tk5 c, wl5, ms5⟩
      · rintro σ H' ⟨o5, vis2, wait2, rfl, k5, hA5, hW5, met5, hk5, ws5, cl5, tk5, wl5, ms5⟩
        rw [List.length_map, List.take_length] at tk5
        refine ⟨_, ms5, _, _, vis2, wait2, rfl, rfl, k5, hA5, hW5, met5, ws5, fun x hx n => ?_, wl5⟩
        by_cases c : x = here
        · rw [c]
          exact tk5
        · exact cl5 x hx n c
    · subst c
      walk_at "gs"
      refine k A vis _ fA (Kp.trans k2 kq) hA3 met fun x => ⟨fun h => ?_, met.all z hg (fun x hx => cl x hx (by simp)) x⟩
      obtain ⟨r, hr2, e⟩ := List.mem_map.mp h
      rw [← e]
      exact met.sub r hr2

/-! ### len(o) by the text's own method -/
section
variable {X : Cx} {K : PySem.W.Frag} {k : Nat} {C f : Addr} {fd : FuncData} {ps : List Str} {sp : Sp} {E : XK}
theorem run_in {A : Around} {pins : List (Addr × Obj)} {σ : L2.St} {H : Hp} {s : Shared} {Q : VK} {vs : List V} {us : List Value}
    (F : Fg X k f fd ps sp) (z : RoomG k A) (hA : A.frames = X.A.frames) (hb : BindsD X.K fd ps []) (hx : Ps X E)
    (I : Inv X pins σ H s) (r : Vals vs us) (h : sp vs H Q E) :
    wpAny (model X.prog X.w) A (call (.ref f) us) (EP X pins σ Q) X.xe s := by
  obtain ⟨ds, hd, hb⟩ := hb
  cases hd
  have e := I.env0
  have e0 : Env0 X.prog X.w X.K X.mg X.base A X.stack s H :=
    ⟨by rw [hA]; exact e.frames, e.mod, e.bs, e.bsz, e.funs, e.frf, e.hok, e.bare⟩
  have hl : (us ++ []).length = ps.length := by
    rw [List.append_nil, ← r.length]
    exact F.len _ _ _ _ h
  have b := hb s us I.kIn hl
  rw [List.append_nil] at b
  refine wpAny_call (codeAny_mono (F.run A X.stack s H ⟨us, []⟩ us vs Q E z e0 b r h) ?_)
  intro q s' hq
  match q, hq with
  | .error e, hq => exact hx pins σ H s e s' I hq
  | .ok (.ret u), hq => exact I.after hq
  | .ok .next, hq => exact False.elim hq
  | .ok .brk, hq => exact False.elim hq
  | .ok .cont, hq => exact False.elim hq
theorem RoomG.in1 {k : Nat} {A : Around} (z : RoomG (k + 1) A) : RoomG k A.in1 := ⟨z.r.in1, z.g⟩
end

section
variable {X : Cx} {K : PySem.W.Frag} {k : Nat} {C f : Addr} {fd : FuncData} {ps : List Str} {sp : Sp} {E : XK}
def rLenM (C : Addr) (sp : Sp) (E : XK) : List V → Hp → VK → Prop := fun xs H Q => ∃ (a dx : Addr) (fs : List (Str × V)), xs = [.ref a] ∧ H a = some (.ins C dx fs) ∧
  sp [.ref a] H (fun v H' => ∃ n : Int, v = .int n ∧ (0 ≤ n ∧ n < 9223372036854775808) ∧ Q (.int n) H') E
theorem k_lenM (h : X.K = K) (hm : Meth X.K C "__len__" f) (F : Fg X k f fd ps sp) (z : RoomG (k + 1) X.A) (hb : BindsD X.K fd ps []) (hx : Ps X E) :
    CallR X (.builtin "len") (rLenM C sp E) := by
  intro pins s σ H xs us Q I r h
  obtain ⟨a, dx, fs, rfl, ha, hsp⟩ := h
  obtain ⟨u, rfl, rx⟩ := vals1 r
  cases rx
  obtain ⟨mA, J, _⟩ := ins_get I.hok ha
  obtain ⟨od, J, _⟩ := J.look
  obtain ⟨m, hF⟩ := I.fr
  refine PySem.W.len_K hF I.ok.mod.kin J hm.at_ hm.fn ?_
  have r0 : Vals [V.ref a] [Value.ref a] := .cons rfl .nil
  refine wpAny_mono (run_in F (RoomG.in1 z) rfl hb hx I r0 hsp) ?_ (fun e s' q => q)
  rintro u s' ⟨v, H', I', rv, n, rfl, hn, q⟩
  obtain ⟨t, rfl⟩ := rv
  exact ⟨hn, ⟨.int n, H', I'.tok _, ⟨_, rfl⟩, q⟩⟩
theorem i_lenM {H : Hp} {Q : VK} {a dx : Addr} {fs : List (Str × V)} (ha : H a = some (.ins C dx fs))
    (h : sp [.ref a] H (fun v H' => ∃ n : Int, v = .int n ∧ (0 ≤ n ∧ n < 9223372036854775808) ∧ Q (.int n) H') E) : rLenM C sp E [.ref a] H Q :=
  ⟨a, dx, fs, rfl, ha, h⟩
end

def sp_tlen (C : Addr) : Sp := fun vs H Q _ => ∃ (t : Addr) (ps : List Addr) (ever : Int) (liv ks : List Int) (nb : Int → List Int), vs = [.ref t] ∧ TiesAt C H t ps ever liv ks nb ∧ Q (.int ks.length) H
theorem sc_Ties_len : FnScope ["self"] ["self"] (defScope s_Ties_len) :=
  ⟨rfl, rfl, rfl, by decide +kernel, rfl, by decide +kernel, by decide +kernel⟩
theorem ok_Ties_len {P : Program} {w : World} {K : PySem.W.Frag} {mg : Str → Option Value} {base : Heap} (T : Txt K mg) :
    FnG P w K mg base 1 T.a_Ties_len T.d_Ties_len ["self"] (sp_tlen T.c_Ties) := by
  refine okD T.F_Ties_len sc_Ties_len (fun vs H Q E h => ?_) (fun cdv A outer s H vs Q E hr h => ?_)
  · first
      | (obtain ⟨_, rfl, _⟩ := h; rfl)
      | (obtain ⟨_, _, rfl, _⟩ := h; rfl)
      | (obtain ⟨_, _, _, rfl, _⟩ := h; rfl)
      | (obtain ⟨_, _, _, _, rfl, _⟩ := h; rfl)
      | (obtain ⟨_, _, _, _, _, rfl, _⟩ := h; rfl)
      | (obtain ⟨_, _, _, _, _, _, rfl, _⟩ := h; rfl)
      | (obtain ⟨_, _, _, _, _, _, _, rfl, _⟩ := h; rfl)
      | (obtain ⟨_, _, _, _, _, _, _, _, rfl, _⟩ := h; rfl)
      | (obtain ⟨_, _, _, _, _, _, _, _, _, rfl, _⟩ := h; rfl)
      | (obtain ⟨_, _, _, _, _, _, _, _, _, _, rfl, _⟩ := h; rfl)
      | (obtain ⟨_, _, _, _, _, _, _, _, _, _, _, rfl, _⟩ := h; rfl)
      | (obtain ⟨_, _, _, _, _, _, _, _, _, _, _, _, rfl, _⟩ := h; rfl)
      | (obtain ⟨_, _, _, _, _, _, _, _, _, _, _, _, _, rfl, _⟩ := h; rfl)
      | (obtain ⟨_, _, _, _, _, _, _, _, _, _, _, _, _, _, rfl, _⟩ := h; rfl)
      | (obtain ⟨_, _, _, _, _, _, _, _, _, _, _, _, _, _, _, rfl, _⟩ := h; rfl)
      | (obtain ⟨_, _, _, _, _, _, _, _, _, _, _, _, _, _, _, _, rfl, _⟩ := h; rfl)
      | (obtain ⟨_, _, _, _, _, _, _, _, _, _, _, _, _, _, _, _, _, rfl, _⟩ := h; rfl)
      | (obtain ⟨_, _, _, _, _, _, _, _, _, _, _, _, _, _, _, _, _, _, rfl, _⟩ := h; rfl)
      | (obtain ⟨_, _, _, _, _, _, _, _, _, _, _, _, _, _, _, _, _, _, _, rfl, _⟩ := h; rfl)
  · obtain ⟨t, ps, ever, liv, ks, nb, rfl, x0, k⟩ := h
    obtain ⟨lv, nd, dx, rep, x, rfl, rfl⟩ := id x0
    obtain ⟨ht, hl, hn, hra, ad, nk⟩ := id x
    have cl_Ties := T.cl_Ties
    have na_Ties_near := T.na_Ties_near
    have na_Ties_own_ever := T.na_Ties_own_ever
    have na_Ties_own_living := T.na_Ties_own_living
    refine ⟨_, (pss_one (ps_ret (pe_callB call_lenD (by rfl) T.n_len (by decide +kernel) (pa_cons (k_fld (K := K) rfl (pv 0) rfl) pa_nil)))), ?_⟩
    dsimp only [cxOf, st_1, st_2, st_3, st_4, st_5, st_6, List.length_cons, List.length_nil, List.replicate_succ, List.replicate_zero, Nat.reduceAdd, Nat.reduceSub]
    walk_at "gs"
    refine ⟨nd, rep.map kA, rfl, hn, ?_⟩
    rw [List.length_map] at k ⊢
    exact k

theorem FreeOf.len {liv ks fs : List Int} (f : FreeOf liv ks fs) : fs.length ≤ ks.length := sub_len (f.1.imp fun {a b} z e => by omega) fun x hx => ((f.2 x).mp hx).1

theorem eq_ints0 {K : PySem.W.Frag} {H : Hp} {Q : VK} {a b : Addr} {l : List Int} (hx : SqL K H a (l.map V.int)) (hy : H b = some (.lst []))
    (h : Q (.bl (decide (l = []))) H) : uEq K (.ref a) (.ref b) H Q := eq_ints (r := []) hx (SqL.of hy) h

/-! ### is_tree, ties_of -/
theorem FreeOf.perm {D : Int → Int → Int} {ever : Int} {liv ks fs : List Int} {nb : Int → List Int} (z : Tr3 D ever liv ks nb) (fo : FreeOf liv ks fs) : (liv ++ fs).Perm ks := by
  refine (List.perm_ext_iff_of_nodup ?_ z.nk).mpr fun x => ?_
  · refine List.nodup_append.mpr ⟨z.nl, fo.1.imp fun {a b} q e => by omega, fun a ha b hb e => ?_⟩
    rw [e] at ha
    exact ((fo.2 b).mp hb).2 ha
  · rw [List.mem_append, fo.2]
    constructor
    · rintro (h | h)
      · exact z.sub x h
      · exact h.1
    · intro h
      by_cases c : x ∈ liv
      · exact .inl c
      · exact .inr ⟨h, c⟩
theorem rows_max {D : Int → Int → Int} {ever : Int} {liv ks : List Int} {nb : Int → List Int} {rs : List (Int × Int)} (z : Tr3 D ever liv ks nb) (ro : RowsOf ks nb rs) : (rs.length : Int) = max 0 ((ks.length : Int) - 1) := by
  cases h : ks with
  | nil =>
    have e : rs = [] := List.eq_nil_iff_forall_not_mem.mpr fun q hq => by
      have := ((ro.2 q).mp hq).1
      rw [h] at this
      cases this
    rw [e]
    rfl
  | cons g l =>
    have e := z.rows_count (g := g) ro.nd ro.2 (by rw [h]; exact List.mem_cons_self)
    rw [← h]
    rw [Int.max_eq_right (by omega)]
    omega
def sp_istree (K : PySem.W.Frag) (C : Addr) : Sp := fun vs H Q _ => ∃ (D : Int → Int → Int) (t : Addr) (ps : List Addr) (ever : Int) (liv ks : List Int) (nb : Int → List Int), vs = [.ref t] ∧ TiesAt C H t ps ever liv ks nb ∧ Tr3 D ever liv ks nb ∧ ever ≤ 100 ∧ ∀ H', Kp [] H H' → Q (.bl true) H'
theorem sc_is_tree : FnScope ["ties", "worlds", "world"] ["ties"] (defScope s_is_tree) :=
  ⟨rfl, rfl, rfl, by decide +kernel, rfl, by decide +kernel, by decide +kernel⟩
theorem ok_is_tree {P : Program} {w : World} {K : PySem.W.Frag} {mg : Str → Option Value} {base : Heap} (T : Txt K mg) :
    FnG P w K mg base 4 T.a_is_tree T.d_is_tree ["ties"] (sp_istree K T.c_Ties) := by
  refine okD T.F_is_tree sc_is_tree (fun vs H Q E h => ?_) (fun cdv A outer s H vs Q E hr h => ?_)
  · first
      | (obtain ⟨_, rfl, _⟩ := h; rfl)
      | (obtain ⟨_, _, rfl, _⟩ := h; rfl)
      | (obtain ⟨_, _, _, rfl, _⟩ := h; rfl)
      | (obtain ⟨_, _, _, _, rfl, _⟩ := h; rfl)
      | (obtain ⟨_, _, _, _, _, rfl, _⟩ := h; rfl)
      | (obtain ⟨_, _, _, _, _, _, rfl, _⟩ := h; rfl)
      | (obtain ⟨_, _, _, _, _, _, _, rfl, _⟩ := h; rfl)
      | (obtain ⟨_, _, _, _, _, _, _, _, rfl, _⟩ := h; rfl)
      | (obtain ⟨_, _, _, _, _, _, _, _, _, rfl, _⟩ := h; rfl)
      | (obtain ⟨_, _, _, _, _, _, _, _, _, _, rfl, _⟩ := h; rfl)
      | (obtain ⟨_, _, _, _, _, _, _, _, _, _, _, rfl, _⟩ := h; rfl)
      | (obtain ⟨_, _, _, _, _, _, _, _, _, _, _, _, rfl, _⟩ := h; rfl)
      | (obtain ⟨_, _, _, _, _, _, _, _, _, _, _, _, _, rfl, _⟩ := h; rfl)
      | (obtain ⟨_, _, _, _, _, _, _, _, _, _, _, _, _, _, rfl, _⟩ := h; rfl)
      | (obtain ⟨_, _, _, _, _, _, _, _, _, _, _, _, _, _, _, rfl, _⟩ := h; rfl)
      | (obtain ⟨_, _, _, _, _, _, _, _, _, _, _, _, _, _, _, _, rfl, _⟩ := h; rfl)
      | (obtain ⟨_, _, _, _, _, _, _, _, _, _, _, _, _, _, _, _, _, rfl, _⟩ := h; rfl)
      | (obtain ⟨_, _, _, _, _, _, _, _, _, _, _, _, _, _, _, _, _, _, rfl, _⟩ := h; rfl)
      | (obtain ⟨_, _, _, _, _, _, _, _, _, _, _, _, _, _, _, _, _, _, _, rfl, _⟩ := h; rfl)
  · obtain ⟨D, t, ps, ever, liv, ks, nb, rfl, x0, z, he, k⟩ := h
    have klen := z.klen
    have llen := z.llen
    obtain ⟨_, _, _, ht⟩ := x0.ins
    have cl_Ties := T.cl_Ties
    have na_Ties_near := T.na_Ties_near
    have na_Ties_own_ever := T.na_Ties_own_ever
    have na_Ties_own_living := T.na_Ties_own_living
    refine ⟨_, (pss_cons (ps_if (pt_cmpR (k_ne (K := K) rfl hr.r.units) (pe_callB (k_len (K := K) rfl) (by rfl) T.n_len (by decide +kernel) (pa_cons (dm0 T.cl_Ties T.me_Ties_rows (ok_Ties_rows T) (hr.mono (by decide)) T.b_Ties_rows passL (pv 0)) pa_nil)) (pe_callB (c_max2 rfl) (by rfl) T.n_max (by decide +kernel) (pa_cons pe_int (pa_cons (pe_op op_sub (pe_callB (k_lenM (K := K) rfl T.me_Ties_len (ok_Ties_len T) (hr.mono (by decide)) T.b_Ties_len passL) (by rfl) T.n_len (by decide +kernel) (pa_cons (pv 0) pa_nil)) pe_int) pa_nil))) (nomark _)) (pss_one (ps_ret pe_bl)) pss_nil)
      (pss_cons (ps_if (pt_not (pt_val (pe_callB (k_all (K := K) rfl rfl) (by rfl) T.n_all (by decide +kernel) (pa_cons (pe_lc (own := [("world", 2)]) (g := (gName 2)) (tt := tYes) rfl sc_is_tree.nd (k_plist (K := K) rfl (dm0 T.cl_Ties T.me_Ties_free (ok_Ties_free T) (hr.mono (by decide)) T.b_Ties_free passL (pv 0))) (blkOk_by (own := [("world", 2)]) (N := ["ties", "worlds", "world"]) (sc := defScope s_is_tree) (by decide +kernel)) (fun _ _ _ _ _ => (pg_name (i := 2) sc_is_tree.nd rfl (Or.inl rfl))) (fun _ _ _ _ _ => pts_nil) (fun _ _ _ _ _ => (pe_cmpR op_ge (pe_callB (k_len (K := K) rfl) (by rfl) T.n_len (by decide +kernel) (pa_cons (dm T.cl_Ties T.me_Ties_tied (ok_Ties_tied T) (hr.mono (by decide)) T.b_Ties_tied passL (pv 0) (pa_cons (pv 2) pa_nil)) pa_nil)) (pe_glob (v := V.int 3) rfl T.g_FEWEST_TIES ⟨_, rfl⟩) (nomark _)))) pa_nil)))) (pss_one (ps_ret pe_bl)) pss_nil)
      (pss_cons (ps_set (i := 1) sc_is_tree.nd rfl (Or.inl rfl) (pe_op (k_add (K := K) rfl) (dm0 T.cl_Ties T.me_Ties_living (ok_Ties_living T) (hr.mono (by decide)) T.b_Ties_living passL (pv 0)) (dm0 T.cl_Ties T.me_Ties_free (ok_Ties_free T) (hr.mono (by decide)) T.b_Ties_free passL (pv 0))))
      (pss_one (ps_ret (pe_or (pe_cmpR (k_eq (K := K) rfl hr.r.units) (pv 1) (pe_lst pa_nil) (nomark _)) (pe_one (pe_cmpR (k_eq (K := K) rfl hr.r.units) (pe_callB call_lenD (by rfl) T.n_len (by decide +kernel) (pa_cons (dm T.cl_Ties T.me_Ties_spread (ok_Ties_spread T) (hr.mono (by decide)) T.b_Ties_spread passL (pv 0) (pa_cons (pe_ix (k_ix (K := K) rfl) (pv 1) pe_int (fun _ _ => rfl)) pa_nil)) pa_nil)) (pe_callB (k_len (K := K) rfl) (by rfl) T.n_len (by decide +kernel) (pa_cons (pv 1) pa_nil)) (nomark _))))))))), ?_⟩
    dsimp only [cxOf, st_1, st_2, st_3, st_4, st_5, st_6, List.length_cons, List.length_nil, List.replicate_succ, List.replicate_zero, Nat.reduceAdd, Nat.reduceSub]
    walk_at "gs"
    refine ⟨D, t, ps, ever, liv, ks, nb, rfl, x0, z, by omega, fun R rs H1 fR k1 ld ro => ?_⟩
    obtain ⟨xs, hxs, hall⟩ := id ld
    have hxl := dpa_len hall
    rw [List.length_map] at hxl
    have hsR : SqL K H1 R xs := SqL.of hxs
    have ht1 := k1.at_ _ _ ht not_nil
    walk_at "gs"
    refine i_lenM ht1 ⟨t, ps, ever, liv, ks, nb, rfl, x0.kp0 k1, _, rfl, by omega, ?_⟩
    walk_at "gs"
    refine i_decN (fun e => absurd (by rw [hxl]; exact rows_max z ro) e) (fun _ => ?_)
    walk_at "gs"
    refine ⟨t, ps, ever, liv, ks, nb, rfl, x0.kp0 k1, by omega, fun F fs H2 fF k2 hF fo => ?_⟩
    have k02 := Kp.trans k1 k2
    have flen := fo.len
    walk_at "gs"
    refine i_elts (SqL.of hF) (fun L i H' => Kp [] H2 H' ∧ H' L = some (.lst ((List.replicate i true).map V.bl))) ?_ ?_ ?_ ?_
    · intro L fL
      exact ⟨Kp.new fL, upd_same⟩
    · rintro L i H' fL _ ⟨kk, _⟩
      exact kk.seqL not_nil (SqL.of hF)
    · rintro L i y H' fL hy ⟨kk, hL⟩
      obtain ⟨w, hw, e⟩ := map_get hy
      subst e
      obtain ⟨wk, wl⟩ := (fo.2 w).mp (List.mem_of_getElem? hw)
      have hil := (List.getElem?_eq_some_iff.mp hw).1
      have k0H := Kp.trans k02 kk
      have htH := k0H.at_ _ _ ht not_nil
      walk_at "gs"
      refine ⟨D, t, ps, ever, liv, ks, nb, w, rfl, x0.kp0 k0H, z, by omega, wk, fun X ts H3 fX k3 hX st mt => ?_⟩
      have hsX : SqL K H3 X (ts.map V.int) := SqL.of hX
      have lt := (nd_perm (st.imp fun {a b} q e => by omega) (z.rp.nd w wk) mt).length_eq
      have red := z.red w wk wl
      walk_at "gs"
      rw [List.length_map, decide_eq_true (show (3 : Int) ≤ (ts.length : Int) by omega)]
      refine ⟨_, k3.at_ _ _ hL not_nil, small_sz (by rw [List.length_map, List.length_replicate]; omega), Kp.upd (Kp.trans kk k3) fL, ?_⟩
      have e : (List.replicate (i + 1) true).map V.bl = (List.replicate i true).map V.bl ++ [V.bl true] := by
        rw [List.replicate_succ', List.map_append]
        rfl
      rw [e]
      exact upd_same
    rintro L H3 fL ⟨k3, hL⟩
    have k03 := Kp.trans k02 k3
    have ht3 := k03.at_ _ _ ht not_nil
    walk_at "gs"
    refine i_all (SqL.of hL) ?_
    rw [all_rep]
    walk_at "gs"
    refine ⟨t, ps, ever, liv, ks, nb, rfl, x0.kp0 k03, fun L2 fL2 => ?_⟩
    have kL2 := Kp.new (ws := []) (o := .lst (liv.map V.int)) fL2
    have hL2 := fresh_at (o := .lst (liv.map V.int)) fL2
    have k04 := Kp.trans k03 kL2
    have ht4 := k04.at_ _ _ ht not_nil
    walk_at "gs"
    refine ⟨t, ps, ever, liv, ks, nb, rfl, x0.kp0 k04, by omega, fun F2 fs2 H5 fF2 k5 hF2 fo2 => ?_⟩
    have hL5 := k5.at_ _ _ hL2 not_nil
    have flen2 := fo2.len
    have k05 := Kp.trans k04 k5
    walk_at "gs"
    refine i_new fun W fW => ?_
    rw [← List.map_append]
    have kW := Kp.new (ws := []) (o := .lst ((liv ++ fs2).map V.int)) fW
    have hW := fresh_at (o := .lst ((liv ++ fs2).map V.int)) fW
    walk_at "gs"
    refine i_new fun q fq => ?_
    have kq := Kp.new (ws := []) (o := .lst []) fq
    have hWq := kq.at_ _ _ hW not_nil
    have pm := fo2.perm z
    have k06 := Kp.trans k05 (Kp.trans kW kq)
    walk_at "gs"
    refine eq_ints0 (SqL.of hWq) upd_same ?_
    walk_at "gs"
    refine i_dec (fun c => ?_) (fun c => ?_)
    · walk_at "gs"
      exact k _ k06
    · obtain ⟨g, l, eg⟩ : ∃ g l, liv ++ fs2 = g :: l := by
        cases h : liv ++ fs2 with
        | nil => exact absurd h c
        | cons g l => exact ⟨g, l, rfl⟩
      have gk : g ∈ ks := pm.mem_iff.mp (by rw [eg]; exact List.mem_cons_self)
      have ht6 := k06.at_ _ _ ht not_nil
      have hsW : SqL K _ W ((liv ++ fs2).map V.int) := SqL.of hWq
      have at0 : atI ((liv ++ fs2).map V.int) 0 = some (.int g) := atI_nat (j := 0) (by rw [eg]; rfl)
      walk_at "gs"
      refine ⟨D, t, ps, ever, liv, ks, nb, g, rfl, x0.kp0 k06, z, by omega, gk, fun A vis H7 fA k7 hA met all => ?_⟩
      have hW7 := k7.at_ _ _ hWq not_nil
      have hsW7 : SqL K H7 W ((liv ++ fs2).map V.int) := SqL.of hW7
      walk_at "gs"
      refine ⟨A, vis.map kI, rfl, hA, ?_⟩
      walk_at "gs"
      have e1 : (vis.map kI).length = ((liv ++ fs2).map V.int).length := by
        rw [List.length_map, List.length_map, pm.length_eq, ← (nd_perm met.nv z.nk all).length_eq, List.length_map]
      rw [e1, decide_eq_true rfl]
      exact k _ (Kp.trans k06 k7)

def LenSetI (K : PySem.W.Frag) (x : V) (H1 : Hp) (Q : VK) : Prop := ∃ (l : Addr) (ns : List Int), x = .ref l ∧ SqL K H1 l (ns.map V.int) ∧ ns.Nodup ∧ ns.length ≤ 4000 ∧ Q (.int (ns.length : Nat)) H1
theorem i_lenSetI {K : PySem.W.Frag} {ta : TE} {σ : L2.St} {H : Hp} {Q : VK} (h : ta σ H fun x H1 => LenSetI K x H1 Q) : RZ.tLenSetI K ta σ H Q := h

def sp_tiesof (K : PySem.W.Frag) (C : Addr) : Sp := fun vs H Q _ => ∃ (D : Int → Int → Int) (ever : Int) (lv fr R : Addr) (liv fs ks : List Int) (rs : List (Int × Int)) (nb : Int → List Int), vs = [.int ever, .ref lv, .ref fr, .ref R] ∧
  H lv = some (.lst (liv.map V.int)) ∧ H fr = some (.lst (fs.map V.int)) ∧ LD K H R (rs.map d2) ∧ Tr3 D ever liv ks nb ∧ liv.Pairwise (· < ·) ∧ FreeOf liv ks fs ∧ RowsOf ks nb rs ∧ ever ≤ 60 ∧
  ∀ t ps nb' H', Fr H t → (∀ b ∈ ps, Fr H b) → Kp [] H H' → TiesAt C H' t ps ever liv (liv ++ fs) nb' → Tr3 D ever liv (liv ++ fs) nb' → Q (.ref t) H'
theorem sc_ties_of : FnScope ["ever", "living", "free", "rows", "worlds", "found"] ["ever", "living", "free", "rows"] (defScope s_ties_of) :=
  ⟨rfl, rfl, rfl, by decide +kernel, rfl, by decide +kernel, by decide +kernel⟩
theorem ok_ties_of {P : Program} {w : World} {K : PySem.W.Frag} {mg : Str → Option Value} {base : Heap} (T : Txt K mg) :
    FnG P w K mg base 5 T.a_ties_of T.d_ties_of ["ever", "living", "free", "rows"] (sp_tiesof K T.c_Ties) := by
  refine okD T.F_ties_of sc_ties_of (fun vs H Q E h => ?_) (fun cdv A outer s H vs Q E hr h => ?_)
  · first
      | (obtain ⟨_, rfl, _⟩ := h; rfl)
      | (obtain ⟨_, _, rfl, _⟩ := h; rfl)
      | (obtain ⟨_, _, _, rfl, _⟩ := h; rfl)
      | (obtain ⟨_, _, _, _, rfl, _⟩ := h; rfl)
      | (obtain ⟨_, _, _, _, _, rfl, _⟩ := h; rfl)
      | (obtain ⟨_, _, _, _, _, _, rfl, _⟩ := h; rfl)
      | (obtain ⟨_, _, _, _, _, _, _, rfl, _⟩ := h; rfl)
      | (obtain ⟨_, _, _, _, _, _, _, _, rfl, _⟩ := h; rfl)
      | (obtain ⟨_, _, _, _, _, _, _, _, _, rfl, _⟩ := h; rfl)
      | (obtain ⟨_, _, _, _, _, _, _, _, _, _, rfl, _⟩ := h; rfl)
      | (obtain ⟨_, _, _, _, _, _, _, _, _, _, _, rfl, _⟩ := h; rfl)
      | (obtain ⟨_, _, _, _, _, _, _, _, _, _, _, _, rfl, _⟩ := h; rfl)
      | (obtain ⟨_, _, _, _, _, _, _, _, _, _, _, _, _, rfl, _⟩ := h; rfl)
      | (obtain ⟨_, _, _, _, _, _, _, _, _, _, _, _, _, _, rfl, _⟩ := h; rfl)
      | (obtain ⟨_, _, _, _, _, _, _, _, _, _, _, _, _, _, _, rfl, _⟩ := h; rfl)
      | (obtain ⟨_, _, _, _, _, _, _, _, _, _, _, _, _, _, _, _, rfl, _⟩ := h; rfl)
      | (obtain ⟨_, _, _, _, _, _, _, _, _, _, _, _, _, _, _, _, _, rfl, _⟩ := h; rfl)
      | (obtain ⟨_, _, _, _, _, _, _, _, _, _, _, _, _, _, _, _, _, _, rfl, _⟩ := h; rfl)
      | (obtain ⟨_, _, _, _, _, _, _, _, _, _, _, _, _, _, _, _, _, _, _, rfl, _⟩ := h; rfl)
  · obtain ⟨D, ever, lv, fr, R, liv, fs, ks, rs, nb, rfl, hlv, hfr, ld, z, sl, fo, ro, he, k⟩ := h
    have klen := z.klen
    have llen := z.llen
    have flen := fo.len
    have pm := fo.perm z
    have nW : (liv ++ fs).Nodup := pm.nodup_iff.mpr z.nk
    have lW := pm.length_eq
    have e0 := z.e0
    have rmax := rows_max z ro
    have rlen : rs.length ≤ ks.length := by
      have : max 0 ((ks.length : Int) - 1) ≤ ks.length := by omega
      omega
    have hrow : ∀ q ∈ rs, (0 ≤ q.1 ∧ q.1 < q.2 ∧ q.2 < 64) ∧ q.1 ∈ liv ++ fs ∧ q.2 ∈ liv ++ fs := fun q hq => by
      obtain ⟨a, b, c⟩ := (ro.2 q).mp hq
      obtain ⟨a2, _, _⟩ := (z.rp.adj _ a _).mp b
      obtain ⟨u1, u2⟩ := z.hU _ a
      obtain ⟨u3, u4⟩ := z.hU _ a2
      exact ⟨⟨u1, c, by omega⟩, pm.mem_iff.mpr a, pm.mem_iff.mpr a2⟩
    refine ⟨_, (pss_cons (ps_if (PW.pt (pw_or (pt_not (pt_val (d1 (ok_is_count T) (hr.mono (by decide)) (by rfl) T.m_is_count T.F_is_count.kp T.b_is_count passL (pa_cons (pv 0) pa_nil)))) (pw_or1 (pt_cmpR op_lt (pv 0) pe_int (nomark _))))) (pss_one ps_never) pss_nil)
      (pss_cons (ps_if (PW.pt (pw_or (pt_not (pt_val (d1 (ok_are_worlds T) (hr.mono (by decide)) (by rfl) T.m_are_worlds T.F_are_worlds.kp T.b_are_worlds passL (pa_cons (pv 1) (pa_cons (pv 0) pa_nil))))) (pw_or1 (pt_not (pt_val (d1 (ok_are_worlds T) (hr.mono (by decide)) (by rfl) T.m_are_worlds T.F_are_worlds.kp T.b_are_worlds passL (pa_cons (pv 2) (pa_cons (pv 0) pa_nil)))))))) (pss_one ps_never) pss_nil)
      (pss_cons (ps_set (i := 4) sc_ties_of.nd rfl (Or.inl rfl) (pe_op (k_add (K := K) rfl) (pv 1) (pv 2)))
      (pss_cons (ps_if (pt_cmpR (k_ne (K := K) rfl hr.r.units) (RZ.pe_lenSetI (by rfl) T.n_len (by rfl) T.n_set (pv 4)) (pe_callB (k_len (K := K) rfl) (by rfl) T.n_len (by decide +kernel) (pa_cons (pv 4) pa_nil)) (nomark _)) (pss_one ps_never) pss_nil)
      (pss_cons (ps_if (pt_not (pt_val (d1 (ok_are_pairs T) (hr.mono (by decide)) (by rfl) T.m_are_pairs T.F_are_pairs.kp T.b_are_pairs passL (pa_cons (pv 3) (pa_cons (pv 4) pa_nil))))) (pss_one ps_never) pss_nil)
      (pss_cons (ps_set (i := 5) sc_ties_of.nd rfl (Or.inl rfl) (d1 (ok_made T) (hr.mono (by decide)) (by rfl) T.m_made T.F_made.kp T.b_made passL (pa_cons (pv 0) (pa_cons (pv 1) (pa_cons (pv 4) (pa_cons (pv 3) pa_nil))))))
      (pss_cons (ps_if (pt_not (pt_val (d1 (ok_is_tree T) (hr.mono (by decide)) (by rfl) T.m_is_tree T.F_is_tree.kp T.b_is_tree passL (pa_cons (pv 5) pa_nil)))) (pss_one ps_never) pss_nil)
      (pss_one (ps_ret (pv 5)))))))))), ?_⟩
    dsimp only [cxOf, st_1, st_2, st_3, st_4, st_5, st_6, List.length_cons, List.length_nil, List.replicate_succ, List.replicate_zero, Nat.reduceAdd, Nat.reduceSub]
    walk_at "gs"
    refine ⟨.int ever, .int ever, rfl, Any.int ever, ?_⟩
    rw [show cntD (.int ever) = true from decide_eq_true (by omega)]
    walk_at "gs"
    refine i_dec (fun c => absurd c (by omega)) (fun _ => ?_)
    walk_at "gs"
    refine ⟨lv, ever, liv, rfl, hlv, sl, fun x hx => z.hU x (z.sub x hx), by omega, fun H1 k1 => ?_⟩
    walk_at "gs"
    refine ⟨fr, ever, fs, rfl, k1.at_ _ _ hfr not_nil, fo.1, fun x hx => z.hU x ((fo.2 x).mp hx).1, by omega, fun H2 k2 => ?_⟩
    have k02 := Kp.trans k1 k2
    have hlv2 := k02.at_ _ _ hlv not_nil
    have hfr2 := k02.at_ _ _ hfr not_nil
    walk_at "gs"
    refine i_new fun W fW => ?_
    rw [← List.map_append]
    have kW := Kp.new (ws := []) (o := .lst ((liv ++ fs).map V.int)) fW
    have hW := fresh_at (o := .lst ((liv ++ fs).map V.int)) fW
    have hsW : SqL K _ W ((liv ++ fs).map V.int) := SqL.of hW
    walk_at "gs"
    refine i_lenSetI ?_
    walk_at "gs"
    refine ⟨W, liv ++ fs, rfl, hsW, nW, by omega, ?_⟩
    walk_at "gs"
    rw [List.length_map]
    refine i_decN (fun e => absurd rfl e) (fun _ => ?_)
    have k03 := Kp.trans k02 kW
    walk_at "gs"
    refine ⟨R, W, rs, liv ++ fs, rfl, ld.kp k03 (imms_d2 _) not_nil, hW, ro.1, by omega, hrow, fun H4 k4 => ?_⟩
    have k04 := Kp.trans k03 k4
    walk_at "gs"
    refine ⟨ever, lv, W, R, liv, liv ++ fs, rs, rfl, k04.at_ _ _ hlv not_nil, .inr (k4.at_ _ _ hW not_nil), ld.kp k04 (imms_d2 _) not_nil, nW, by omega, by omega, fun q hq => ?_, fun t ps H5 ft fps k5 x5 => ?_⟩
    · obtain ⟨⟨a, b, c⟩, d, e⟩ := hrow q hq
      exact ⟨d, e, by omega⟩
    have z5 : Tr3 D ever liv (liv ++ fs) (nbR rs) := (z.told ro).alike nW (fun x => pm.mem_iff) z.nl (fun _ => Iff.rfl) (z.told ro).rp.nd fun _ _ _ => Iff.rfl
    walk_at "gs"
    refine ⟨D, t, ps, ever, liv, liv ++ fs, nbR rs, rfl, x5, z5, by omega, fun H6 k6 => ?_⟩
    walk_at "gs"
    exact k t ps (nbR rs) H6 (k04.free ft) (fun b hb => k04.free (fps b hb)) (Kp.trans k04 (Kp.trans k5 k6)) (x5.kp0 k6) z5

theorem i_isIf {c : TT} {s1 s2 : TS} {D : Ends} {σ : L2.St} {H : Hp} (h : tIfS c s1 s2 D σ H) : tIfS c s1 s2 D σ H := h
theorem i_cutIf {c : TT} {s1 s2 : TS} {D : Ends} {σ : L2.St} {H : Hp} (P : L2.St → Hp → Prop) (k : ∀ σ' H', P σ' H' → D.nx σ' H') (h : ∀ D' : Ends, (∀ σ' H', P σ' H' → D'.nx σ' H') → tIfS c s1 s2 D' σ H) : tIfS c s1 s2 D σ H := h D k
--%%M
local macro_rules | `(tactic| walk_at "gi") => `(tactic| repeat ((fail_if_success (with_reducible apply i_isIf)); (walk_at "g1")))
--%%E

/-! ### pots of three numbers -/
def Pot3 (H : Hp) (p : Addr) : Prop := ∃ x y z : Int, H p = some (.lst [.int x, .int y, .int z]) ∧ 0 ≤ x ∧ 0 ≤ y ∧ y < 8589934592
theorem Pot3.kp {H H1 : Hp} {p : Addr} {ws : List Addr} (h : Pot3 H p) (k : Kp ws H H1) (hp : p ∉ ws) : Pot3 H1 p := by
  obtain ⟨x, y, z, e, r⟩ := h
  exact ⟨x, y, z, k.at_ _ _ e hp, r⟩
theorem Pot3.kp0 {H H1 : Hp} {p : Addr} (h : Pot3 H p) (k : Kp [] H H1) : Pot3 H1 p := h.kp k not_nil
theorem Pot3.ne {H : Hp} {p x : Addr} (h : Pot3 H p) (f : Fr H x) : p ≠ x := by
  obtain ⟨_, _, _, e, _⟩ := h
  exact fr_ne e f
theorem Pot3.tr {H : Hp} {p : Addr} (h : Pot3 H p) : Tr H p := by
  obtain ⟨_, _, _, e, _⟩ := h
  exact ⟨_, e⟩
theorem i_pw3 {H : Hp} {Q : VK} {n : Int} (h0 : -18446744073709551616 < n) (h1 : n < 18446744073709551616) (q : Q (.int (n ^ 3)) H) : rPow (.int n) (.int 3) H Q :=
  ⟨n, 3, rfl, rfl, ⟨by decide, by decide, by omega⟩, q⟩
def sp_pot3 (K : PySem.W.Frag) : Sp := fun vs H Q _ => ∃ (a : Addr) (ns : List Int) (i : Nat),
  vs = [.ref a, .int i] ∧ SqL K H a (ns.map V.int) ∧ i ≤ 100 ∧
  ∀ p H', Fr H p → Kp [] H H' → Pot3 H' p → Q (.ref p) H'
theorem sc_law_pot : FnScope ["_law_script", "_law_k", "_law_cell"] ["_law_script", "_law_k"] (defScope s_law_pot) :=
  ⟨rfl, rfl, rfl, by decide +kernel, rfl, by decide +kernel, by decide +kernel⟩
theorem ok_law_pot {P : Program} {w : World} {K : PySem.W.Frag} {mg : Str → Option Value} {base : Heap} (T : Txt K mg) :
    FnG P w K mg base 1 T.a_law_pot T.d_law_pot ["_law_script", "_law_k"] (sp_pot3 K) := by
  refine okD T.F_law_pot sc_law_pot (fun vs H Q E h => ?_) (fun cdv A outer s H vs Q E hr h => ?_)
  · first
      | (obtain ⟨_, rfl, _⟩ := h; rfl)
      | (obtain ⟨_, _, rfl, _⟩ := h; rfl)
      | (obtain ⟨_, _, _, rfl, _⟩ := h; rfl)
      | (obtain ⟨_, _, _, _, rfl, _⟩ := h; rfl)
      | (obtain ⟨_, _, _, _, _, rfl, _⟩ := h; rfl)
      | (obtain ⟨_, _, _, _, _, _, rfl, _⟩ := h; rfl)
      | (obtain ⟨_, _, _, _, _, _, _, rfl, _⟩ := h; rfl)
      | (obtain ⟨_, _, _, _, _, _, _, _, rfl, _⟩ := h; rfl)
      | (obtain ⟨_, _, _, _, _, _, _, _, _, rfl, _⟩ := h; rfl)
      | (obtain ⟨_, _, _, _, _, _, _, _, _, _, rfl, _⟩ := h; rfl)
      | (obtain ⟨_, _, _, _, _, _, _, _, _, _, _, rfl, _⟩ := h; rfl)
      | (obtain ⟨_, _, _, _, _, _, _, _, _, _, _, _, rfl, _⟩ := h; rfl)
      | (obtain ⟨_, _, _, _, _, _, _, _, _, _, _, _, _, rfl, _⟩ := h; rfl)
      | (obtain ⟨_, _, _, _, _, _, _, _, _, _, _, _, _, _, rfl, _⟩ := h; rfl)
      | (obtain ⟨_, _, _, _, _, _, _, _, _, _, _, _, _, _, _, rfl, _⟩ := h; rfl)
      | (obtain ⟨_, _, _, _, _, _, _, _, _, _, _, _, _, _, _, _, rfl, _⟩ := h; rfl)
      | (obtain ⟨_, _, _, _, _, _, _, _, _, _, _, _, _, _, _, _, _, rfl, _⟩ := h; rfl)
      | (obtain ⟨_, _, _, _, _, _, _, _, _, _, _, _, _, _, _, _, _, _, rfl, _⟩ := h; rfl)
      | (obtain ⟨_, _, _, _, _, _, _, _, _, _, _, _, _, _, _, _, _, _, _, rfl, _⟩ := h; rfl)
  · obtain ⟨a, ns, i, rfl, hsq, hi, k⟩ := h
    have key : ∀ (c : Int) (x : Int) (H' : Hp) (p : Addr), Fr H p → H' = upd H p (.lst [.int (max 0 x), .int ((c % 2147483629 * 48271 + 60337 * ((i : Int) + 1)) ^ 3 % 2147483587), .int 0]) → Q (.ref p) H' := fun c x H' p fp e => by
      subst e
      exact k p _ fp (Kp.new fp) ⟨_, _, _, upd_same, by omega, by omega, by omega⟩
    refine ⟨_, (pss_cons (ps_set (i := 2) sc_law_pot.nd rfl (Or.inl rfl) (pe_ifExp (pt_cmpR op_lt (pv 1) (pe_callB (k_len (K := K) rfl) (by rfl) T.n_len (by decide +kernel) (pa_cons (pv 0) pa_nil)) (nomark _)) (pe_ix (k_ix (K := K) rfl) (pv 0) (pv 1) (fun _ _ => rfl)) pe_int))
      (pss_one (ps_ret (pe_lst (pa_cons (pe_callB (c_max2 rfl) (by rfl) T.n_max (by decide +kernel) (pa_cons pe_int (pa_cons (pe_op op_sub (pv 2) (pe_op o_pow pe_int pe_int)) pa_nil))) (pa_cons (pe_op o_mod (pe_op o_pow (pe_op (k_add (K := K) rfl) (pe_op o_mul (pe_op o_mod (pv 2) pe_int) pe_int) (pe_op o_mul pe_int (pe_op (k_add (K := K) rfl) (pv 1) pe_int))) pe_int) pe_int) (pa_cons pe_int pa_nil))))))), ?_⟩
    dsimp only [cxOf, st_1, st_2, st_3, st_4, st_5, st_6, List.length_cons, List.length_nil, List.replicate_succ, List.replicate_zero, Nat.reduceAdd, Nat.reduceSub]
    walk_at "gs"
    refine i_dec (fun h0 => ?_) (fun h0 => ?_)
    · rw [List.length_map] at h0
      have hx : (ns.map V.int)[i]? = some (V.int (ns[i]'(by omega))) := by simp
      have hat := atI_nat hx
      walk_at "gs"
      refine i_pw3 (by omega) (by omega) ?_
      walk_at "gs"
      refine i_new fun p hp => ?_
      exact key _ _ _ p hp rfl
    · walk_at "gs"
      refine i_pw3 (by omega) (by omega) ?_
      walk_at "gs"
      refine i_new fun p hp => ?_
      exact key _ _ _ p hp rfl
def sp_take : Sp := fun vs H Q _ => ∃ (p : Addr) (n : Int), vs = [.ref p, .int n] ∧ Pot3 H p ∧ 0 < n ∧
  n ≤ 10000000000000000000000000000000000000000000000000000000000000000000000 ∧
  ∀ r H', 0 ≤ r → r < n → Pot3 H' p → Kp [p] H H' → Q (.int r) H'
theorem sc_law_take : FnScope ["_law_pot_here", "_law_many", "_law_digit"] ["_law_pot_here", "_law_many"] (defScope s_law_take) :=
  ⟨rfl, rfl, rfl, by decide +kernel, rfl, by decide +kernel, by decide +kernel⟩
theorem ok_law_take {P : Program} {w : World} {K : PySem.W.Frag} {mg : Str → Option Value} {base : Heap} (T : Txt K mg) :
    FnG P w K mg base 1 T.a_law_take T.d_law_take ["_law_pot_here", "_law_many"] sp_take := by
  refine okD T.F_law_take sc_law_take (fun vs H Q E h => ?_) (fun cdv A outer s H vs Q E hr h => ?_)
  · first
      | (obtain ⟨_, rfl, _⟩ := h; rfl)
      | (obtain ⟨_, _, rfl, _⟩ := h; rfl)
      | (obtain ⟨_, _, _, rfl, _⟩ := h; rfl)
      | (obtain ⟨_, _, _, _, rfl, _⟩ := h; rfl)
      | (obtain ⟨_, _, _, _, _, rfl, _⟩ := h; rfl)
      | (obtain ⟨_, _, _, _, _, _, rfl, _⟩ := h; rfl)
      | (obtain ⟨_, _, _, _, _, _, _, rfl, _⟩ := h; rfl)
      | (obtain ⟨_, _, _, _, _, _, _, _, rfl, _⟩ := h; rfl)
      | (obtain ⟨_, _, _, _, _, _, _, _, _, rfl, _⟩ := h; rfl)
      | (obtain ⟨_, _, _, _, _, _, _, _, _, _, rfl, _⟩ := h; rfl)
      | (obtain ⟨_, _, _, _, _, _, _, _, _, _, _, rfl, _⟩ := h; rfl)
      | (obtain ⟨_, _, _, _, _, _, _, _, _, _, _, _, rfl, _⟩ := h; rfl)
      | (obtain ⟨_, _, _, _, _, _, _, _, _, _, _, _, _, rfl, _⟩ := h; rfl)
      | (obtain ⟨_, _, _, _, _, _, _, _, _, _, _, _, _, _, rfl, _⟩ := h; rfl)
      | (obtain ⟨_, _, _, _, _, _, _, _, _, _, _, _, _, _, _, rfl, _⟩ := h; rfl)
      | (obtain ⟨_, _, _, _, _, _, _, _, _, _, _, _, _, _, _, _, rfl, _⟩ := h; rfl)
      | (obtain ⟨_, _, _, _, _, _, _, _, _, _, _, _, _, _, _, _, _, rfl, _⟩ := h; rfl)
      | (obtain ⟨_, _, _, _, _, _, _, _, _, _, _, _, _, _, _, _, _, _, rfl, _⟩ := h; rfl)
      | (obtain ⟨_, _, _, _, _, _, _, _, _, _, _, _, _, _, _, _, _, _, _, rfl, _⟩ := h; rfl)
  · obtain ⟨p, n, rfl, ⟨x, y, z, hp, hx, hy, hy2⟩, h0, h1, k⟩ := h
    refine ⟨_, (pss_cons (ps_if (pt_cmpR op_gt (pe_ix (k_ix (K := K) rfl) (pv 0) pe_int (fun _ _ => rfl)) pe_int (nomark _)) (pss_cons (ps_asg (pe_callB c_dm (by rfl) T.n_divmod (by decide +kernel) (pa_cons (pe_ix (k_ix (K := K) rfl) (pv 0) pe_int (fun _ _ => rfl)) (pa_cons (pv 1) pa_nil))) (k_gtup (K := K) 2 rfl rfl (pgs_cons (pg_sub (pv 0) pe_int set_list) (pgs_cons (pg_name (i := 2) sc_law_take.nd rfl (Or.inl rfl)) pgs_nil))))
      (pss_one (ps_ret (pv 2)))) pss_nil)
      (pss_cons (ps_asg (pe_op (k_add (K := K) rfl) (pe_ix (k_ix (K := K) rfl) (pv 0) pe_int (fun _ _ => rfl)) pe_int) (pg_sub (pv 0) pe_int set_list))
      (pss_cons (ps_asg (pe_op o_mod (pe_op (k_add (K := K) rfl) (pe_op o_mul (pe_ix (k_ix (K := K) rfl) (pv 0) pe_int (fun _ _ => rfl)) pe_int) (pe_op o_mul pe_int (pe_ix (k_ix (K := K) rfl) (pv 0) pe_int (fun _ _ => rfl)))) pe_int) (pg_sub (pv 0) pe_int set_list))
      (pss_one (ps_ret (pe_op o_mod (pe_op o_div (pe_op o_mod (pe_op o_mul (pe_ix (k_ix (K := K) rfl) (pv 0) pe_int (fun _ _ => rfl)) (pe_ix (k_ix (K := K) rfl) (pv 0) pe_int (fun _ _ => rfl))) pe_int) pe_int) (pv 1))))))), ?_⟩
    dsimp only [cxOf, st_1, st_2, st_3, st_4, st_5, st_6, List.length_cons, List.length_nil, List.replicate_succ, List.replicate_zero, Nat.reduceAdd, Nat.reduceSub]
    walk_at "gs"
    refine i_dec (fun hx0 => ?_) (fun hx0 => ?_)
    · walk_at "gs"
      refine i_new fun q hq => ?_
      walk_at "gs"
      refine k _ _ (Int.emod_nonneg _ (by omega)) (Int.emod_lt_of_pos _ h0) ⟨_, _, _, upd_same, ?_, hy, hy2⟩ ?_
      · exact Int.ediv_nonneg hx (by omega)
      · walk_at "g_kp"
    · walk_at "gs"
      refine k _ _ (Int.emod_nonneg _ (by omega)) (Int.emod_lt_of_pos _ h0) ⟨_, _, _, upd_same, hx, ?_, ?_⟩ ?_
      · omega
      · omega
      · walk_at "g_kp"
theorem use_take {H : Hp} {Q : VK} {E : XK} {p : Addr} {n : Int} (hp : Pot3 H p) (h0 : 0 < n)
    (h1 : n ≤ 10000000000000000000000000000000000000000000000000000000000000000000000)
    (k : ∀ r H', 0 ≤ r → r < n → Pot3 H' p → Kp [p] H H' → Q (.int r) H') :
    sp_take [.ref p, .int n] H Q E := ⟨p, n, rfl, hp, h0, h1, k⟩
def sp_pick (K : PySem.W.Frag) : Sp := fun vs H Q _ => ∃ (p l : Addr) (xs : List V), vs = [.ref p, .ref l] ∧ Pot3 H p ∧ SqL K H l xs ∧ l ≠ p ∧ 0 < xs.length ∧ xs.length ≤ 1000 ∧
  ∀ v H', v ∈ xs → Pot3 H' p → Kp [p] H H' → Q v H'
theorem sc_law_pick : FnScope ["_law_pot_here", "_law_some"] ["_law_pot_here", "_law_some"] (defScope s_law_pick) :=
  ⟨rfl, rfl, rfl, by decide +kernel, rfl, by decide +kernel, by decide +kernel⟩
theorem ok_law_pick {P : Program} {w : World} {K : PySem.W.Frag} {mg : Str → Option Value} {base : Heap} (T : Txt K mg) :
    FnG P w K mg base 2 T.a_law_pick T.d_law_pick ["_law_pot_here", "_law_some"] (sp_pick K) := by
  refine okD T.F_law_pick sc_law_pick (fun vs H Q E h => ?_) (fun cdv A outer s H vs Q E hr h => ?_)
  · first
      | (obtain ⟨_, rfl, _⟩ := h; rfl)
      | (obtain ⟨_, _, rfl, _⟩ := h; rfl)
      | (obtain ⟨_, _, _, rfl, _⟩ := h; rfl)
      | (obtain ⟨_, _, _, _, rfl, _⟩ := h; rfl)
      | (obtain ⟨_, _, _, _, _, rfl, _⟩ := h; rfl)
      | (obtain ⟨_, _, _, _, _, _, rfl, _⟩ := h; rfl)
      | (obtain ⟨_, _, _, _, _, _, _, rfl, _⟩ := h; rfl)
      | (obtain ⟨_, _, _, _, _, _, _, _, rfl, _⟩ := h; rfl)
      | (obtain ⟨_, _, _, _, _, _, _, _, _, rfl, _⟩ := h; rfl)
      | (obtain ⟨_, _, _, _, _, _, _, _, _, _, rfl, _⟩ := h; rfl)
      | (obtain ⟨_, _, _, _, _, _, _, _, _, _, _, rfl, _⟩ := h; rfl)
      | (obtain ⟨_, _, _, _, _, _, _, _, _, _, _, _, rfl, _⟩ := h; rfl)
      | (obtain ⟨_, _, _, _, _, _, _, _, _, _, _, _, _, rfl, _⟩ := h; rfl)
      | (obtain ⟨_, _, _, _, _, _, _, _, _, _, _, _, _, _, rfl, _⟩ := h; rfl)
      | (obtain ⟨_, _, _, _, _, _, _, _, _, _, _, _, _, _, _, rfl, _⟩ := h; rfl)
      | (obtain ⟨_, _, _, _, _, _, _, _, _, _, _, _, _, _, _, _, rfl, _⟩ := h; rfl)
      | (obtain ⟨_, _, _, _, _, _, _, _, _, _, _, _, _, _, _, _, _, rfl, _⟩ := h; rfl)
      | (obtain ⟨_, _, _, _, _, _, _, _, _, _, _, _, _, _, _, _, _, _, rfl, _⟩ := h; rfl)
      | (obtain ⟨_, _, _, _, _, _, _, _, _, _, _, _, _, _, _, _, _, _, _, rfl, _⟩ := h; rfl)
  · obtain ⟨p, l, xs, rfl, hp, hl, np, l0, l1, k⟩ := h
    refine ⟨_, (pss_one (ps_ret (pe_ix (k_ix (K := K) rfl) (pv 1) (d1 (ok_law_take T) (hr.mono (by decide)) (by rfl) T.m_law_take T.F_law_take.kp T.b_law_take passL (pa_cons (pv 0) (pa_cons (pe_callB (k_len (K := K) rfl) (by rfl) T.n_len (by decide +kernel) (pa_cons (pv 1) pa_nil)) pa_nil))) (fun _ _ => rfl)))), ?_⟩
    dsimp only [cxOf, st_1, st_2, st_3, st_4, st_5, st_6, List.length_cons, List.length_nil, List.replicate_succ, List.replicate_zero, Nat.reduceAdd, Nat.reduceSub]
    walk_at "gs"
    refine use_take hp (by omega) (by omega) (fun r H1 r0 r1 hp1 k1 => ?_)
    obtain ⟨r, rfl⟩ := Int.eq_ofNat_of_zero_le r0
    have hr : r < xs.length := by omega
    have hat : atI xs (r : Nat) = some xs[r] := atI_nat (List.getElem?_eq_getElem hr)
    have hl1 : SqL K H1 l xs := k1.seqL (not_one np) hl
    walk_at "gs"
    exact k _ H1 (List.getElem_mem hr) hp1 k1

/-! ### drawn trees: grown edge by edge, named anew -/
section
variable {D : Int → Int → Int} {ever n w : Int} {es : List (Int × Int)} {ks : List Int} {nb : Int → List Int}
/-- the numbers below n -/
def upto (n : Nat) : List Int := (List.range n).map fun k : Nat => (k : Int)
theorem mem_upto {n : Nat} {x : Int} : x ∈ upto n ↔ 0 ≤ x ∧ x < n := by
  unfold upto
  rw [List.mem_map]
  constructor
  · rintro ⟨k, hk, rfl⟩
    have := List.mem_range.mp hk
    omega
  · rintro ⟨a, b⟩
    exact ⟨x.toNat, List.mem_range.mpr (by omega), by omega⟩
theorem upto_succ (n : Nat) : upto (n + 1) = upto n ++ [(n : Int)] := by
  unfold upto
  rw [List.range_succ, List.map_append]
  rfl
theorem upto_nd (n : Nat) : (upto n).Nodup := by
  unfold upto
  refine List.pairwise_map.mpr (List.nodup_range.imp fun {a b} n e => n ?_)
  omega
theorem upto_len (n : Nat) : (upto n).length = n := by
  unfold upto
  rw [List.length_map, List.length_range]
/-- a tree of n worlds by its edges, each to a later one -/
structure Tre (n : Nat) (es : List (Int × Int)) : Prop where
  ex : ∃ D, TreeU D (Un n) ∧ Rp D (upto n) (nbR es)
  lt : ∀ q ∈ es, 0 ≤ q.1 ∧ q.1 < q.2 ∧ q.2 < n
  nd : es.Nodup
  len : es.length + 1 = n
  sn : (es.map (·.2)).Nodup
theorem nbR_app (es : List (Int × Int)) (q : Int × Int) (u : Int) : nbR (es ++ [q]) u = nbR es u ++ ((if q.1 = u then [q.2] else []) ++ (if q.2 = u then [q.1] else [])) := by
  unfold nbR
  rw [List.flatMap_append]
  simp
theorem nbR_none {es : List (Int × Int)} {u : Int} (h : ∀ q ∈ es, q.1 ≠ u ∧ q.2 ≠ u) : nbR es u = [] := by
  cases e : nbR es u with
  | nil => rfl
  | cons v l =>
    have m : v ∈ nbR es u := by rw [e]; exact List.mem_cons_self
    rcases mem_nbR.mp m with m | m
    · exact absurd rfl (h _ m).1
    · exact absurd rfl (h _ m).2
theorem Tre.one : Tre 1 [] := by
  have z := tr3_init
  refine ⟨⟨D0, z.t, ?_⟩, fun q h => (nomatch h), List.nodup_nil, rfl, List.nodup_nil⟩
  exact z.rp
theorem Tre.more {n : Nat} {w : Int} (t : Tre n es) (h : 0 ≤ w ∧ w < n) : Tre (n + 1) (es ++ [(w, (n : Int))]) := by
  obtain ⟨D, tu, r⟩ := t.ex
  have hU : ∀ u ∈ upto n, Un n u := fun u hu => mem_upto.mp hu
  have hw := mem_upto.mpr h
  refine ⟨⟨Dk D n w, tu.fork (hU w hw), ?_⟩, fun q hq => ?_, ?_, by rw [List.length_append, List.length_singleton, t.len], ?_⟩
  · have z := r.fork tu hU hw
    rw [upto_succ]
    have e : nbR (es ++ [(w, (n : Int))]) = forkN (nbR es) n w := by
      funext u
      rw [nbR_app]
      unfold forkN
      by_cases c : u = n
      · subst c
        rw [if_neg (by show w ≠ _; omega), if_pos rfl, if_pos rfl, nbR_none fun q hq => by have := t.lt q hq; omega]
        rfl
      · rw [if_neg c, if_neg (fun z : (n : Int) = u => c z.symm)]
        by_cases c2 : u = w
        · subst c2
          rw [if_pos rfl, if_pos rfl, List.append_nil]
        · rw [if_neg (fun z : w = u => c2 z.symm), if_neg c2, List.append_nil, List.append_nil]
    rw [e]
    exact z
  · rcases List.mem_append.mp hq with h | h
    · have := t.lt q h
      omega
    · rw [List.mem_singleton.mp h]
      show 0 ≤ w ∧ w < (n : Int) ∧ (n : Int) < ((n + 1 : Nat) : Int)
      omega
  · refine List.nodup_append.mpr ⟨t.nd, by simp, fun a ha b hb e => ?_⟩
    have := t.lt a ha
    rw [e, List.mem_singleton.mp hb] at this
    have : (n : Int) < n := this.2.2
    omega
  · rw [List.map_append]
    refine List.nodup_append.mpr ⟨t.sn, by simp, fun a ha b hb e => ?_⟩
    obtain ⟨q, hq, rfl⟩ := List.mem_map.mp ha
    have := t.lt q hq
    have e2 : b = (n : Int) := List.mem_singleton.mp hb
    omega
/-- how many edges a world has -/
theorem nbR_count {u : Int} : ∀ {es : List (Int × Int)}, (∀ q ∈ es, q.1 ≠ q.2) → (nbR es u).length = (es.filter fun q => decide (u = q.1 ∨ u = q.2)).length
  | [], _ => rfl
  | q :: es, h => by
    have ih := nbR_count (u := u) (es := es) fun r hr => h r (List.mem_cons_of_mem _ hr)
    have hq := h q List.mem_cons_self
    have e : nbR (q :: es) u = ((if q.1 = u then [q.2] else []) ++ (if q.2 = u then [q.1] else [])) ++ nbR es u := by
      unfold nbR
      rw [List.flatMap_cons]
    rw [e, List.length_append, ih, List.filter_cons]
    by_cases c1 : q.1 = u
    · rw [if_pos c1, if_neg (by omega), if_pos (decide_eq_true (.inl c1.symm)), List.length_cons]
      simp
      omega
    · by_cases c2 : q.2 = u
      · rw [if_neg c1, if_pos c2, if_pos (decide_eq_true (.inr c2.symm)), List.length_cons]
        simp
        omega
      · rw [if_neg c1, if_neg c2, if_neg (by simp; omega)]
        simp
/-- the youngest has one edge at most -/
theorem Tre.last {n : Nat} (t : Tre n es) : (nbR es ((n : Int) - 1)).length ≤ 1 := by
  rw [nbR_count fun q hq => by have := t.lt q hq; omega]
  have h : ∀ q ∈ es.filter fun q => decide ((n : Int) - 1 = q.1 ∨ (n : Int) - 1 = q.2), q.2 = (n : Int) - 1 := fun q hq => by
    obtain ⟨a, b⟩ := List.mem_filter.mp hq
    have := t.lt q a
    have := of_decide_eq_true b
    omega
  have nd : ((es.filter fun q => decide ((n : Int) - 1 = q.1 ∨ (n : Int) - 1 = q.2)).map (·.2)).Nodup := t.sn.sublist (List.Sublist.map _ List.filter_sublist)
  cases e : es.filter fun q => decide ((n : Int) - 1 = q.1 ∨ (n : Int) - 1 = q.2) with
  | nil => exact Nat.zero_le _
  | cons a l =>
    cases l with
    | nil => exact Nat.le_refl _
    | cons b l =>
      rw [e] at h nd
      have h1 := h a (by simp)
      have h2 := h b (by simp)
      rw [List.map_cons, List.map_cons, List.nodup_cons, h1, h2] at nd
      exact absurd List.mem_cons_self nd.1
/-! named anew -/
/-- distances where each of U' hangs at one of U -/
def Dn (D : Int → Int → Int) (g h : Int → Int) : Int → Int → Int := fun x y => if x = y then 0 else D (g x) (g y) + h x + h y
theorem TreeU.named {U U' : Int → Prop} {g h : Int → Int} (t : TreeU D U) (hg : ∀ x, U' x → U (g x)) (h0 : ∀ x, 0 ≤ h x) (inj : ∀ x y, U' x → U' y → g x = g y → h x = 0 → h y = 0 → x = y) : TreeU (Dn D g h) U' := by
  have ne : ∀ {x y}, x ≠ y → Dn D g h x y = D (g x) (g y) + h x + h y := fun {x y} c => by
    unfold Dn
    rw [if_neg c]
  have eq : ∀ x, Dn D g h x x = 0 := fun x => by
    unfold Dn
    rw [if_pos rfl]
  have nn : ∀ u v, U' u → U' v → 0 ≤ Dn D g h u v := fun u v hu hv => by
    by_cases c : u = v
    · rw [c, eq]
      exact Int.le_refl _
    · rw [ne c]
      have := t.nn _ _ (hg u hu) (hg v hv)
      have := h0 u
      have := h0 v
      omega
  have sy : ∀ u v, U' u → U' v → Dn D g h u v = Dn D g h v u := fun u v hu hv => by
    by_cases c : u = v
    · rw [c]
    · rw [ne c, ne (Ne.symm c), t.sym _ _ (hg u hu) (hg v hv)]
      omega
  have tri : ∀ u v x, U' u → U' v → U' x → Dn D g h u v ≤ Dn D g h u x + Dn D g h x v := fun u v x hu hv hx => by
    by_cases c : u = v
    · have := nn u x hu hx
      have := nn x v hx hv
      rw [c, eq] at *
      omega
    · by_cases c1 : u = x
      · rw [c1, eq]
        omega
      · by_cases c2 : x = v
        · rw [c2, eq]
          omega
        · rw [ne c, ne c1, ne c2]
          have := t.tri (hg u hu) (hg v hv) (hg x hx)
          have := h0 x
          omega
  refine ⟨nn, fun u _ => eq u, fun u v hu hv e => ?_, sy, fun a b c d ha hb hc hd => ?_⟩
  · refine Classical.byContradiction fun n => ?_
    rw [ne n] at e
    have := t.nn _ _ (hg u hu) (hg v hv)
    have := h0 u
    have := h0 v
    exact n (inj u v hu hv (t.eq _ _ (hg u hu) (hg v hv) (by omega)) (by omega) (by omega))
  · by_cases e1 : a = b
    · subst e1
      have := tri c d a hc hd ha
      have := sy c a hc ha
      rw [eq]
      omega
    by_cases e2 : c = d
    · subst e2
      have := tri a b c ha hb hc
      have := sy c b hc hb
      rw [eq]
      omega
    by_cases e3 : a = c
    · subst e3
      have := sy a b ha hb
      rw [eq]
      omega
    by_cases e4 : a = d
    · subst e4
      have := sy b a hb ha
      have := sy c a hc ha
      rw [eq]
      omega
    by_cases e5 : b = c
    · subst e5
      rw [eq]
      omega
    by_cases e6 : b = d
    · subst e6
      have := sy c b hc hb
      rw [eq]
      omega
    rw [ne e1, ne e2, ne e3, ne e4, ne e5, ne e6]
    have := t.four _ _ _ _ (hg a ha) (hg b hb) (hg c hc) (hg d hd)
    omega
theorem Rp.named {D' : Int → Int → Int} {f : Int → Int} {nb' : Int → List Int} (r : Rp D ks nb) (inj : ∀ x ∈ ks, ∀ y ∈ ks, f x = f y → x = y) (e : ∀ x ∈ ks, ∀ y ∈ ks, D' (f x) (f y) = D x y) (en : ∀ x ∈ ks, nb' (f x) = (nb x).map f) : Rp D' (ks.map f) nb' := by
  have b : ∀ {x y z}, x ∈ ks → y ∈ ks → z ∈ ks → (Btw D' (f x) (f y) (f z) ↔ Btw D x y z) := fun {x y z} hx hy hz => by
    unfold Btw
    rw [e x hx y hy, e y hy z hz, e x hx z hz]
  refine ⟨fun u hu => ?_, fun u hu v => ?_, fun u hu v hv z hz => ?_⟩
  · obtain ⟨x, hx, rfl⟩ := List.mem_map.mp hu
    rw [en x hx]
    refine List.pairwise_map.mpr ((r.nd x hx).imp_of_mem fun {a b} ha hb n q => n (inj a ((r.adj x hx a).mp ha).1 b ((r.adj x hx b).mp hb).1 q))
  · obtain ⟨x, hx, rfl⟩ := List.mem_map.mp hu
    rw [en x hx, List.mem_map]
    constructor
    · rintro ⟨y, hy, rfl⟩
      obtain ⟨h1, h2, h3⟩ := (r.adj x hx y).mp hy
      refine ⟨List.mem_map.mpr ⟨y, h1, rfl⟩, fun q => h2 (inj y h1 x hx q), fun c hc n1 n2 k => ?_⟩
      obtain ⟨z, hz, rfl⟩ := List.mem_map.mp hc
      exact h3 z hz (fun q => n1 (by rw [q])) (fun q => n2 (by rw [q])) ((b hx hz h1).mp k)
    · rintro ⟨h1, h2, h3⟩
      obtain ⟨y, hy, rfl⟩ := List.mem_map.mp h1
      refine ⟨y, (r.adj x hx y).mpr ⟨hy, fun q => h2 (by rw [q]), fun z hz n1 n2 k => ?_⟩, rfl⟩
      exact h3 (f z) (List.mem_map.mpr ⟨z, hz, rfl⟩) (fun q => n1 (inj z hz x hx q)) (fun q => n2 (inj z hz y hy q)) ((b hx hz hy).mpr k)
  · obtain ⟨x, hx, rfl⟩ := List.mem_map.mp hu
    obtain ⟨y, hy, rfl⟩ := List.mem_map.mp hv
    obtain ⟨c, hc, rfl⟩ := List.mem_map.mp hz
    obtain ⟨m, hm, m1, m2, m3⟩ := r.med x hx y hy c hc
    exact ⟨f m, List.mem_map.mpr ⟨m, hm, rfl⟩, (b hx hm hy).mpr m1, (b hx hm hc).mpr m2, (b hy hm hc).mpr m3⟩
/-- an edge named anew, the lower end first -/
def edN (f : Int → Int) (q : Int × Int) : Int × Int := (min (f q.1) (f q.2), max (f q.1) (f q.2))
theorem nbR_named {f : Int → Int} {n : Nat} {u : Int} (hu : 0 ≤ u ∧ u < n) (inj : ∀ x y : Int, (0 ≤ x ∧ x < n) → (0 ≤ y ∧ y < n) → f x = f y → x = y) : ∀ {es : List (Int × Int)}, (∀ q ∈ es, 0 ≤ q.1 ∧ q.1 < q.2 ∧ q.2 < n) → nbR (es.map (edN f)) (f u) = (nbR es u).map f
  | [], _ => rfl
  | q :: es, h => by
    have ih := nbR_named hu inj (es := es) fun r hr => h r (List.mem_cons_of_mem _ hr)
    obtain ⟨a, b, c⟩ := h q List.mem_cons_self
    have i1 : f q.1 = f u ↔ q.1 = u := ⟨inj _ _ (by omega) hu, fun e => by rw [e]⟩
    have i2 : f q.2 = f u ↔ q.2 = u := ⟨inj _ _ (by omega) hu, fun e => by rw [e]⟩
    have i3 : f q.1 ≠ f q.2 := fun e => by
      have := inj _ _ (by omega) (by omega) e
      omega
    unfold nbR at ih ⊢
    rw [List.map_cons, List.flatMap_cons, List.flatMap_cons, ih, List.map_append]
    congr 1
    unfold edN
    rw [List.map_append]
    by_cases c1 : q.1 = u
    · have n2 : q.2 ≠ u := by omega
      have e1 := i1.mpr c1
      have e2 : f q.2 ≠ f u := fun e => n2 (i2.mp e)
      rw [if_pos c1, if_neg n2]
      by_cases l : f q.1 < f q.2
      · rw [Int.min_eq_left (by omega), Int.max_eq_right (by omega), if_pos e1, if_neg e2]
        rfl
      · rw [Int.min_eq_right (by omega), Int.max_eq_left (by omega), if_pos e1, if_neg e2]
        rfl
    · have e1 : f q.1 ≠ f u := fun e => c1 (i1.mp e)
      rw [if_neg c1]
      by_cases c2 : q.2 = u
      · have e2 := i2.mpr c2
        rw [if_pos c2]
        by_cases l : f q.1 < f q.2
        · rw [Int.min_eq_left (by omega), Int.max_eq_right (by omega), if_pos e2, if_neg e1]
          rfl
        · rw [Int.min_eq_right (by omega), Int.max_eq_left (by omega), if_pos e2, if_neg e1]
          rfl
      · have e2 : f q.2 ≠ f u := fun e => c2 (i2.mp e)
        rw [if_neg c2]
        by_cases l : f q.1 < f q.2
        · rw [Int.min_eq_left (by omega), Int.max_eq_right (by omega), if_neg e1, if_neg e2]
          rfl
        · rw [Int.min_eq_right (by omega), Int.max_eq_left (by omega), if_neg e1, if_neg e2]
          rfl
/-- the tree by other names, of which there may be more: ties' tree, where each free one has three ties -/
theorem Tre.tr3 {n : Nat} {f : Int → Int} {liv fs : List Int} {rs : List (Int × Int)} (t : Tre n es) (hf : ∀ x : Int, 0 ≤ x → x < n → Un ever (f x)) (inj : ∀ x y : Int, (0 ≤ x ∧ x < n) → (0 ≤ y ∧ y < n) → f x = f y → x = y)
    (pm : (liv ++ fs).Perm ((upto n).map f)) (prs : rs.Perm (es.map (edN f))) (red : ∀ x ∈ fs, ∀ u : Int, 0 ≤ u → u < n → x = f u → 3 ≤ (nbR es u).length) :
    ∃ D', Tr3 D' ever liv (liv ++ fs) (nbR rs) ∧ (liv ++ fs).Nodup ∧ ∀ q, q ∈ rs ↔ q.1 ∈ liv ++ fs ∧ q.2 ∈ nbR rs q.1 ∧ q.1 < q.2 := by
  obtain ⟨D, tu, r⟩ := t.ex
  have n0 : 0 < n := by have := t.len; omega
  have e0 : 0 < ever := by
    have := hf 0 (Int.le_refl _) (by omega)
    obtain ⟨a, b⟩ := this
    omega
  have ninj : ∀ x ∈ upto n, ∀ y ∈ upto n, f x = f y → x = y := fun x hx y hy => inj x y (mem_upto.mp hx) (mem_upto.mp hy)
  have nK : ((upto n).map f).Nodup := List.pairwise_map.mpr ((upto_nd n).imp_of_mem fun {a b} ha hb n q => n (ninj a ha b hb q))
  have nLF := pm.nodup_iff.mpr nK
  obtain ⟨g, hg⟩ : ∃ g : Int → Int, ∀ x, (x ∈ (upto n).map f → g x ∈ upto n ∧ f (g x) = x) ∧ (x ∉ (upto n).map f → g x = 0) := by
    have h : ∀ x, ∃ y, (x ∈ (upto n).map f → y ∈ upto n ∧ f y = x) ∧ (x ∉ (upto n).map f → y = 0) := fun x => by
      by_cases c : x ∈ (upto n).map f
      · obtain ⟨y, hy, e⟩ := List.mem_map.mp c
        exact ⟨y, fun _ => ⟨hy, e⟩, fun z => absurd c z⟩
      · exact ⟨0, fun z => absurd z c, fun _ => rfl⟩
    exact ⟨fun x => Classical.choose (h x), fun x => Classical.choose_spec (h x)⟩
  obtain ⟨h, hh⟩ : ∃ h : Int → Int, ∀ x, (x ∈ (upto n).map f → h x = 0) ∧ (x ∉ (upto n).map f → h x = 1) :=
    ⟨fun x => if x ∈ (upto n).map f then 0 else 1, fun x => ⟨fun c => if_pos c, fun c => if_neg c⟩⟩
  have gf : ∀ x ∈ upto n, g (f x) = x := fun x hx => by
    obtain ⟨a, b⟩ := (hg (f x)).1 (List.mem_map.mpr ⟨x, hx, rfl⟩)
    exact ninj _ a _ hx b
  have tn : TreeU (Dn D g h) (Un ever) := by
    refine tu.named (fun x _ => ?_) (fun x => ?_) (fun x y _ _ e1 e2 e3 => ?_)
    · by_cases c : x ∈ (upto n).map f
      · exact mem_upto.mp ((hg x).1 c).1
      · rw [(hg x).2 c]
        exact ⟨Int.le_refl _, by omega⟩
    · by_cases c : x ∈ (upto n).map f
      · rw [(hh x).1 c]
        exact Int.le_refl _
      · rw [(hh x).2 c]
        decide
    · have c1 : x ∈ (upto n).map f := Classical.byContradiction fun c => by
        rw [(hh x).2 c] at e2
        cases e2
      have c2 : y ∈ (upto n).map f := Classical.byContradiction fun c => by
        rw [(hh y).2 c] at e3
        cases e3
      rw [← ((hg x).1 c1).2, ← ((hg y).1 c2).2, e1]
  have de : ∀ x ∈ upto n, ∀ y ∈ upto n, Dn D g h (f x) (f y) = D x y := fun x hx y hy => by
    unfold Dn
    by_cases c : x = y
    · rw [c, if_pos rfl]
      exact (tu.self y (mem_upto.mp hy)).symm
    · rw [if_neg (fun z => c (ninj x hx y hy z)), gf x hx, gf y hy, (hh _).1 (List.mem_map.mpr ⟨x, hx, rfl⟩), (hh _).1 (List.mem_map.mpr ⟨y, hy, rfl⟩)]
      omega
  have rn : Rp (Dn D g h) ((upto n).map f) (nbR (es.map (edN f))) := r.named ninj de fun x hx => nbR_named (mem_upto.mp hx) inj t.lt
  have elt : ∀ q ∈ es.map (edN f), q.1 < q.2 ∧ q.1 ∈ (upto n).map f ∧ q.2 ∈ (upto n).map f := fun q hq => by
    obtain ⟨p, hp, rfl⟩ := List.mem_map.mp hq
    obtain ⟨a, b, c⟩ := t.lt p hp
    have i3 : f p.1 ≠ f p.2 := fun e => by
      have := inj _ _ (by omega) (by omega) e
      omega
    have m1 : f p.1 ∈ (upto n).map f := List.mem_map.mpr ⟨p.1, mem_upto.mpr (by omega), rfl⟩
    have m2 : f p.2 ∈ (upto n).map f := List.mem_map.mpr ⟨p.2, mem_upto.mpr (by omega), rfl⟩
    unfold edN
    by_cases l : f p.1 < f p.2
    · rw [Int.min_eq_left (by omega), Int.max_eq_right (by omega)]
      exact ⟨l, m1, m2⟩
    · rw [Int.min_eq_right (by omega), Int.max_eq_left (by omega)]
      exact ⟨by show f p.2 < f p.1; omega, m2, m1⟩
  have nE : (es.map (edN f)).Nodup := by
    refine List.pairwise_map.mpr (t.nd.imp_of_mem fun {p q} hp hq n e => n ?_)
    obtain ⟨a, b, c⟩ := t.lt p hp
    obtain ⟨a', b', c'⟩ := t.lt q hq
    have e1 := congrArg Prod.fst e
    have e2 := congrArg Prod.snd e
    unfold edN at e1 e2
    simp only at e1 e2
    have k : (f p.1 = f q.1 ∧ f p.2 = f q.2) ∨ (f p.1 = f q.2 ∧ f p.2 = f q.1) := by omega
    rcases k with ⟨k1, k2⟩ | ⟨k1, k2⟩
    · exact Prod.ext (inj _ _ (by omega) (by omega) k1) (inj _ _ (by omega) (by omega) k2)
    · have := inj _ _ (by omega) (by omega) k1
      have := inj _ _ (by omega) (by omega) k2
      omega
  have nR := prs.nodup_iff.mpr nE
  have rlt : ∀ q ∈ rs, q.1 < q.2 ∧ q.1 ∈ liv ++ fs ∧ q.2 ∈ liv ++ fs := fun q hq => by
    obtain ⟨a, b, c⟩ := elt q (prs.mem_iff.mp hq)
    exact ⟨a, pm.mem_iff.mpr b, pm.mem_iff.mpr c⟩
  have mn : ∀ u v, v ∈ nbR rs u ↔ v ∈ nbR (es.map (edN f)) u := fun u v => by rw [mem_nbR, mem_nbR, prs.mem_iff, prs.mem_iff]
  have rn2 : Rp (Dn D g h) (liv ++ fs) (nbR rs) := rn.alike (fun x => pm.mem_iff) (fun u _ => nbR_nd nR fun q hq => (rlt q hq).1) fun u _ v => mn u v
  refine ⟨Dn D g h, ⟨tn, fun u hu => ?_, rn2, nLF, (List.nodup_append.mp nLF).1, fun x hx => List.mem_append.mpr (.inl hx), fun x hx n => ?_, e0⟩, nLF, fun q => ?_⟩
  · obtain ⟨x, hx, rfl⟩ := List.mem_map.mp (pm.mem_iff.mp hu)
    obtain ⟨a, b⟩ := mem_upto.mp hx
    exact hf x a b
  · have hx2 := (List.mem_append.mp hx).resolve_left n
    obtain ⟨u, hu, e⟩ := List.mem_map.mp (pm.mem_iff.mp hx)
    obtain ⟨a, b⟩ := mem_upto.mp hu
    have l := red x hx2 u a b e.symm
    have p : (nbR rs x).Perm ((nbR es u).map f) := by
      rw [← nbR_named ⟨a, b⟩ inj t.lt, e]
      exact nd_perm (nbR_nd nR fun q hq => (rlt q hq).1) (nbR_nd nE fun q hq => (elt q hq).1) (mn x)
    rw [p.length_eq, List.length_map]
    exact l
  · constructor
    · intro hq
      obtain ⟨a, b, c⟩ := rlt q hq
      exact ⟨b, mem_nbR.mpr (.inl hq), a⟩
    · rintro ⟨a, b, c⟩
      rcases mem_nbR.mp b with h | h
      · exact h
      · have : q.2 < q.1 := (rlt _ h).1
        omega
end

/-! ### grown by drawn turns -/
structure Grn (n : Nat) (es : List (Int × Int)) (liv fs : List Int) : Prop where
  t : Tre n es
  pm : (liv ++ fs).Perm (upto n)
  red : ∀ x ∈ fs, 3 ≤ (nbR es x).length
/-- all but one have ties enough -/
structure Gro (n : Nat) (es : List (Int × Int)) (liv fs : List Int) (s : Int) : Prop where
  t : Tre n es
  pm : (liv ++ fs).Perm (upto n)
  red : ∀ x ∈ fs, x ≠ s → 3 ≤ (nbR es x).length
  hs : 0 ≤ s ∧ s < n
theorem Grn.one : Grn 1 [] [0] [] := ⟨Tre.one, by decide, fun x h => (nomatch h)⟩
theorem Grn.at_ {n : Nat} {es : List (Int × Int)} {liv fs : List Int} {s : Int} (g : Grn n es liv fs) (h : s ∈ liv) : Gro n es liv fs s :=
  ⟨g.t, g.pm, fun x hx _ => g.red x hx, mem_upto.mp (g.pm.mem_iff.mp (List.mem_append.mpr (.inl h)))⟩
theorem Grn.free {n : Nat} {es : List (Int × Int)} {liv fs : List Int} {s : Int} (g : Grn n es liv fs) (h : s ∈ liv) : Gro n es (liv.erase s) (fs ++ [s]) s := by
  refine ⟨g.t, ?_, fun x hx ne => ?_, mem_upto.mp (g.pm.mem_iff.mp (List.mem_append.mpr (.inl h)))⟩
  · refine List.Perm.trans ?_ g.pm
    have p1 : (liv.erase s ++ (fs ++ [s])).Perm (s :: (liv.erase s ++ fs)) := by
      rw [← List.append_assoc]
      exact List.perm_append_comm (l₂ := [s])
    exact p1.trans ((List.perm_cons_erase h).symm.append_right fs)
  · rcases List.mem_append.mp hx with h | h
    · exact g.red x h
    · exact absurd (List.mem_singleton.mp h) ne
theorem Gro.done {n : Nat} {es : List (Int × Int)} {liv fs : List Int} {s : Int} (g : Gro n es liv fs s) (h : s ∈ fs → 3 ≤ (nbR es s).length) : Grn n es liv fs :=
  ⟨g.t, g.pm, fun x hx => if c : x = s then by rw [c] at hx ⊢; exact h hx else g.red x hx c⟩
theorem Gro.more {n : Nat} {es : List (Int × Int)} {liv fs : List Int} {s : Int} (g : Gro n es liv fs s) : Gro (n + 1) (es ++ [(s, (n : Int))]) (liv ++ [(n : Int)]) fs s ∧ (nbR (es ++ [(s, (n : Int))]) s).length = (nbR es s).length + 1 := by
  have hs := g.hs
  refine ⟨⟨g.t.more hs, ?_, fun x hx ne => ?_, by omega⟩, ?_⟩
  · rw [upto_succ]
    have p1 : (liv ++ [(n : Int)] ++ fs).Perm (liv ++ fs ++ [(n : Int)]) := by
      rw [List.append_assoc, List.append_assoc]
      exact (List.perm_append_comm).append_left liv
    exact p1.trans (g.pm.append_right _)
  · have := g.red x hx ne
    rw [nbR_app, List.length_append]
    omega
  · rw [nbR_app, List.length_append, if_pos rfl, if_neg (by show ¬ (n : Int) = s; omega)]
    rfl
theorem Grn.ne {n : Nat} {es : List (Int × Int)} {liv fs : List Int} (g : Grn n es liv fs) : liv ≠ [] := fun e => by
  have l := g.t.len
  have m : (n : Int) - 1 ∈ liv ++ fs := g.pm.mem_iff.mpr (mem_upto.mpr ⟨by omega, by omega⟩)
  rw [e] at m
  have := g.red _ m
  have := g.t.last
  omega
theorem snoc_int' {l : List Int} {n : Int} : l.map V.int ++ [V.int n] = (l ++ [n]).map V.int := by
  rw [List.map_append]
  rfl
theorem i_inT {K : PySem.W.Frag} {H : Hp} {Q : VK} {l : Addr} {ns : List Int} {k : Int} (hl : SqT K H l (ns.map V.int)) (q : Q (.bl (decide (k ∈ ns))) H) : rIn K false (.int k) (.ref l) H Q := by
  refine ⟨l, _, rfl, .inr hl, rfl, flat_ints ns, ?_⟩
  rw [inV_ints]
  exact q
theorem prs_get {H : Hp} : ∀ {xs : List V} {ps : List (Int × Int)} {i : Nat} {v : V}, PrsAt H xs ps → xs[i]? = some v → ∃ t q, ps[i]? = some q ∧ v = .ref t ∧ H t = some (.tup [.int q.1, .int q.2])
  | [], _, _, _, _, e => by simp at e
  | _ :: _, [], _, _, h, _ => h.elim
  | _ :: _, q :: _, 0, v, ⟨⟨t, e, h⟩, _⟩, ev => by
    rw [List.getElem?_cons_zero] at ev
    cases ev
    exact ⟨t, q, rfl, e, h⟩
  | _ :: xs, _ :: ps, i + 1, v, ⟨_, r⟩, ev => by
    rw [List.getElem?_cons_succ] at ev ⊢
    exact prs_get r ev
theorem filter_step {α : Type} {f : α → Bool} {l : List α} {i : Nat} {x : α} (h : l[i]? = some x) : (l.take (i + 1)).filter f = (l.take i).filter f ++ (if f x = true then [x] else []) := by
  rw [List.take_add_one, h, List.filter_append]
  congr 1
  show [x].filter f = _
  rw [List.filter_cons]
  rfl
def sp_grown3 (K : PySem.W.Frag) : Sp := fun vs H Q _ => ∃ (p : Addr) (most steps : Int), vs = [.ref p, .int most, .int steps] ∧ Pot3 H p ∧ (0 ≤ most ∧ most ≤ 100) ∧ (0 ≤ steps ∧ steps ≤ 30) ∧
  ∀ R E L F xs es liv fs n H', Pot3 H' p → Kp [p] H H' → H' R = some (.tup [.ref E, .ref L, .ref F]) → H' E = some (.lst xs) → PrsAt H' xs es → H' L = some (.lst (liv.map V.int)) → H' F = some (.lst (fs.map V.int)) → Fr H E → Fr H L → Fr H F →
    Grn n es liv fs → (fs.length : Int) ≤ most → liv.length ≤ 12 → (n : Int) ≤ 1 + steps + 2 * fs.length → Q (.ref R) H'
theorem sc_law_grown : FnScope ["_law_pot_here", "_law_most", "_law_steps", "_law_edges", "_law_living", "_law_free", "_law_turn", "_law_spot", "_law_degree", "_law_more", "_law_k", "_law_edge"] ["_law_pot_here", "_law_most", "_law_steps"] (defScope s_law_grown) :=
  ⟨rfl, rfl, rfl, by decide +kernel, rfl, by decide +kernel, by decide +kernel⟩
theorem ok_law_grown {P : Program} {w : World} {K : PySem.W.Frag} {mg : Str → Option Value} {base : Heap} (T : Txt K mg) :
    FnG P w K mg base 3 T.a_law_grown T.d_law_grown ["_law_pot_here", "_law_most", "_law_steps"] (sp_grown3 K) := by
  refine okD T.F_law_grown sc_law_grown (fun vs H Q E h => ?_) (fun cdv A outer s H vs Q E hr h => ?_)
  · first
      | (obtain ⟨_, rfl, _⟩ := h; rfl)
      | (obtain ⟨_, _, rfl, _⟩ := h; rfl)
      | (obtain ⟨_, _, _, rfl, _⟩ := h; rfl)
      | (obtain ⟨_, _, _, _, rfl, _⟩ := h; rfl)
      | (obtain ⟨_, _, _, _, _, rfl, _⟩ := h; rfl)
      | (obtain ⟨_, _, _, _, _, _, rfl, _⟩ := h; rfl)
      | (obtain ⟨_, _, _, _, _, _, _, rfl, _⟩ := h; rfl)
      | (obtain ⟨_, _, _, _, _, _, _, _, rfl, _⟩ := h; rfl)
      | (obtain ⟨_, _, _, _, _, _, _, _, _, rfl, _⟩ := h; rfl)
      | (obtain ⟨_, _, _, _, _, _, _, _, _, _, rfl, _⟩ := h; rfl)
      | (obtain ⟨_, _, _, _, _, _, _, _, _, _, _, rfl, _⟩ := h; rfl)
      | (obtain ⟨_, _, _, _, _, _, _, _, _, _, _, _, rfl, _⟩ := h; rfl)
      | (obtain ⟨_, _, _, _, _, _, _, _, _, _, _, _, _, rfl, _⟩ := h; rfl)
      | (obtain ⟨_, _, _, _, _, _, _, _, _, _, _, _, _, _, rfl, _⟩ := h; rfl)
      | (obtain ⟨_, _, _, _, _, _, _, _, _, _, _, _, _, _, _, rfl, _⟩ := h; rfl)
      | (obtain ⟨_, _, _, _, _, _, _, _, _, _, _, _, _, _, _, _, rfl, _⟩ := h; rfl)
      | (obtain ⟨_, _, _, _, _, _, _, _, _, _, _, _, _, _, _, _, _, rfl, _⟩ := h; rfl)
      | (obtain ⟨_, _, _, _, _, _, _, _, _, _, _, _, _, _, _, _, _, _, rfl, _⟩ := h; rfl)
      | (obtain ⟨_, _, _, _, _, _, _, _, _, _, _, _, _, _, _, _, _, _, _, rfl, _⟩ := h; rfl)
  · obtain ⟨p, most, steps, rfl, hp, hm, hst, k⟩ := h
    have cl_Ties := T.cl_Ties
    have na_Ties_near := T.na_Ties_near
    have na_Ties_own_ever := T.na_Ties_own_ever
    have na_Ties_own_living := T.na_Ties_own_living
    refine ⟨_, (pss_cons (ps_par3 (i := 3) (j := 4) (l := 5) rfl sc_law_grown.nd rfl rfl rfl (by decide) (by decide) (by decide) rfl rfl rfl (pa_cons (pe_lst pa_nil) (pa_cons (pe_lst (pa_cons pe_int pa_nil)) (pa_cons (pe_lst pa_nil) pa_nil))) (by rfl))
      (pss_cons (ps_for (passes_of rfl) rfl (pi_range1 (by rfl) T.n_range (pa_cons (pv 2) pa_nil)) (pg_name (i := 6) sc_law_grown.nd rfl (Or.inl rfl))
      (pss_cons (ps_set (i := 7) sc_law_grown.nd rfl (Or.inr rfl) (d1 (ok_law_pick T) (hr.mono (by decide)) (by rfl) T.m_law_pick T.F_law_pick.kp T.b_law_pick passL (pa_cons (pv 0) (pa_cons (pv 4) pa_nil))))
      (pss_cons (ps_set (i := 8) sc_law_grown.nd rfl (Or.inl rfl) (pe_callB (k_len (K := K) rfl) (by rfl) T.n_len (by decide +kernel) (pa_cons (pe_lc (own := [("_law_edge", 11)]) (g := (gName 11)) rfl sc_law_grown.nd (k_plist (K := K) rfl (pv 3)) (blkOk_by (own := [("_law_edge", 11)]) (N := ["_law_pot_here", "_law_most", "_law_steps", "_law_edges", "_law_living", "_law_free", "_law_turn", "_law_spot", "_law_degree", "_law_more", "_law_k", "_law_edge"]) (sc := defScope s_law_grown) (by decide +kernel)) (fun _ _ _ _ _ => (pg_name (i := 11) sc_law_grown.nd rfl (Or.inl rfl))) (fun _ _ _ _ _ => (pts_one (pt_cmpR (k_in (K := K) rfl) (pv 7) (pv 11) (rfl)))) (fun _ _ _ _ _ => (pv 11))) pa_nil)))
      (pss_cons (ps_set (i := 9) sc_law_grown.nd rfl (Or.inl rfl) pe_int)
      (pss_cons (ps_if (PW.pt (pw_and (pt_cmpR op_lt (pe_callB (k_len (K := K) rfl) (by rfl) T.n_len (by decide +kernel) (pa_cons (pv 5) pa_nil)) (pv 1) (nomark _)) (pw_and (pt_cmpR op_lt (pe_callB (k_len (K := K) rfl) (by rfl) T.n_len (by decide +kernel) (pa_cons (pv 4) pa_nil)) pe_int (nomark _)) (pw_and1 (pt_cmpR (k_eq (K := K) rfl hr.r.units) (d1 (ok_law_take T) (hr.mono (by decide)) (by rfl) T.m_law_take T.F_law_take.kp T.b_law_take passL (pa_cons (pv 0) (pa_cons pe_int pa_nil))) pe_int (nomark _)))))) (pss_cons (ps_set (i := 9) sc_law_grown.nd rfl (Or.inl rfl) (pe_callB (c_max2 rfl) (by rfl) T.n_max (by decide +kernel) (pa_cons pe_int (pa_cons (pe_op op_sub pe_int (pv 8)) pa_nil))))
      (pss_cons (ps_expr (pe_bm PySem.F.plainAttrs_list PySem.F.slot_list_remove PySem.F.type_list_remove mt_remove (pv 4) (pa_cons (pv 7) pa_nil)))
      (pss_one (ps_expr (pe_bm PySem.F.plainAttrs_list PySem.F.slot_list_append PySem.F.type_list_append mt_append (pv 5) (pa_cons (pv 7) pa_nil)))))) pss_nil)
      (pss_one (ps_for (passes_of rfl) rfl (pi_range1 (by rfl) T.n_range (pa_cons (pe_op o_mul (pv 9) (pe_callTy call_int1 (by rfl) T.n_int (by decide +kernel) (pa_cons (pe_cmpR op_lt (pe_callB (k_len (K := K) rfl) (by rfl) T.n_len (by decide +kernel) (pa_cons (pv 4) pa_nil)) pe_int (nomark _)) pa_nil))) pa_nil)) (pg_name (i := 10) sc_law_grown.nd rfl (Or.inl rfl))
      (pss_cons (ps_expr (pe_bm PySem.F.plainAttrs_list PySem.F.slot_list_append PySem.F.type_list_append mt_append (pv 3) (pa_cons (pe_tup (pa_cons (pv 7) (pa_cons (pe_op (k_add (K := K) rfl) (pe_callB (k_len (K := K) rfl) (by rfl) T.n_len (by decide +kernel) (pa_cons (pv 3) pa_nil)) pe_int) pa_nil))) pa_nil)))
      (pss_one (ps_expr (pe_bm PySem.F.plainAttrs_list PySem.F.slot_list_append PySem.F.type_list_append mt_append (pv 4) (pa_cons (pe_callB (k_len (K := K) rfl) (by rfl) T.n_len (by decide +kernel) (pa_cons (pv 3) pa_nil)) pa_nil))))))))))))
      (pss_one (ps_ret (pe_tup (pa_cons (pv 3) (pa_cons (pv 4) (pa_cons (pv 5) pa_nil)))))))), ?_⟩
    dsimp only [cxOf, st_1, st_2, st_3, st_4, st_5, st_6, List.length_cons, List.length_nil, List.replicate_succ, List.replicate_zero, Nat.reduceAdd, Nat.reduceSub]
    walk_at "gs"
    refine i_par3 ?_
    walk_at "gs"
    refine i_new fun E fE => ?_
    walk_at "gs"
    refine i_new fun L fL => ?_
    walk_at "gs"
    refine i_new fun F fF => ?_
    walk_at "gs"
    refine i_three ?_
    have kE := Kp.new (ws := []) (o := HO.lst []) fE
    have kL := Kp.new (ws := []) (o := HO.lst [.int 0]) fL
    have kF := Kp.new (ws := []) (o := HO.lst []) fF
    have hE := (Kp.trans kL kF).at_ _ _ (fresh_at (o := HO.lst []) fE) not_nil
    have hL := kF.at_ _ _ (fresh_at (o := HO.lst [.int 0]) fL) not_nil
    have hF := fresh_at (o := HO.lst []) fF
    have nEL : E ≠ L := fr_ne (fresh_at (o := HO.lst []) fE) fL
    have nEF : E ≠ F := fr_ne (kL.at_ _ _ (fresh_at (o := HO.lst []) fE) not_nil) fF
    have nLF : L ≠ F := fr_ne (fresh_at (o := HO.lst [.int 0]) fL) fF
    have npE : E ≠ p := Ne.symm (hp.ne fE)
    have npL : L ≠ p := Ne.symm ((hp.kp0 kE).ne fL)
    have npF : F ≠ p := Ne.symm (((hp.kp0 kE).kp0 kL).ne fF)
    have fL0 : Fr H L := kE.free fL
    have fF0 : Fr H F := (Kp.trans kE kL).free fF
    have k0 := Kp.trans kE (Kp.trans kL kF)
    have hp0 := hp.kp0 k0
    obtain ⟨H0, e0⟩ : ∃ H0, H0 = upd (upd (upd H E (.lst [])) L (.lst [.int 0])) F (.lst []) := ⟨_, rfl⟩
    rw [← e0] at hE hL hF k0 hp0 ⊢
    walk_at "gs"
    refine i_turns (by omega) (by omega) (fun i σ H' => ∃ (o6 o7 o8 o9 o10 : Option V) (xs : List V) (es : List (Int × Int)) (liv fs : List Int) (n : Nat), σ = [some (.ref p), some (.int most), some (.int steps), some (.ref E), some (.ref L), some (.ref F), o6, o7, o8, o9, o10, none] ∧
      Pot3 H' p ∧ Kp [p] H H' ∧ H' E = some (.lst xs) ∧ PrsAt H' xs es ∧ H' L = some (.lst (liv.map V.int)) ∧ H' F = some (.lst (fs.map V.int)) ∧ Grn n es liv fs ∧ (fs.length : Int) ≤ most ∧ liv.length ≤ 12 ∧ n ≤ 1 + i + 2 * fs.length ∧ liv ≠ []) ?_ ?_ ?_
    · exact ⟨_, _, _, _, _, [], [], [0], [], 1, rfl, hp0, k0.wide, hE, trivial, hL, hF, Grn.one, by simp; omega, by decide, by omega, by simp⟩
    · rintro i σ H1 hi ⟨o6, o7, o8, o9, o10, xs, es, liv, fs, n, rfl, hp1, k1, hE1, px, hL1, hF1, g, lf, ll, ln, ne⟩
      have hsL : SqL K H1 L (liv.map V.int) := SqL.of hL1
      walk_at "gs"
      refine ⟨p, L, liv.map V.int, rfl, hp1, hsL, npL, by rw [List.length_map]; exact List.length_pos_iff.mpr ne, by rw [List.length_map]; omega, fun v H2 hv hp2 k2 => ?_⟩
      obtain ⟨s, hs, rfl⟩ := List.mem_map.mp hv
      have hE2 := k2.at_ _ _ hE1 (not_one npE)
      have hL2 := k2.at_ _ _ hL1 (not_one npL)
      have hF2 := k2.at_ _ _ hF1 (not_one npF)
      have px2 := px.kp k2
      have hsE2 : SqL K H2 E xs := SqL.of hE2
      have lx := px.len
      have le := g.t.len
      walk_at "gs"
      refine i_elts hsE2 (fun R i H' => Kp [] H2 H' ∧ ∃ ys, H' R = some (.lst ys) ∧ ys.length = ((es.take i).filter fun q => decide (s = q.1 ∨ s = q.2)).length) ?_ ?_ ?_ ?_
      · intro R fR
        exact ⟨Kp.new fR, [], upd_same, rfl⟩
      · rintro R i H' fR _ ⟨kk, _⟩
        exact kk.seqL not_nil hsE2
      · rintro R i y H' fR hy ⟨kk, ys, hR, ly⟩
        obtain ⟨t, q, hq, rfl, ht⟩ := prs_get (px2.kp kk) hy
        have hst : SqT K H' t ([q.1, q.2].map V.int) := SqT.of ht
        have step := filter_step (f := fun q : Int × Int => decide (s = q.1 ∨ s = q.2)) hq
        have hil := (List.getElem?_eq_some_iff.mp hq).1
        have l1 := List.length_filter_le (fun q : Int × Int => decide (s = q.1 ∨ s = q.2)) (es.take i)
        have l2 : (es.take i).length ≤ es.length := by rw [List.length_take]; omega
        walk_at "gs"
        refine i_inT hst ?_
        walk_at "gs"
        refine i_dec (fun c => ?_) (fun c => ?_)
        · have c2 : s = q.1 ∨ s = q.2 := by simpa using c
          walk_at "gs"
          refine ⟨_, hR, small_sz (by omega), Kp.upd kk fR, _, upd_same, ?_⟩
          rw [step, if_pos (decide_eq_true c2), List.length_append, List.length_append, ly]
          rfl
        · have c2 : ¬ (s = q.1 ∨ s = q.2) := by simpa using c
          refine ⟨kk, ys, hR, ?_⟩
          rw [step, if_neg (by simpa using c2), List.append_nil]
          exact ly
      rintro R H3 fR ⟨k3, ys, hR, ly⟩
      rw [show xs.length = es.length from lx, List.take_length, ← nbR_count fun q hq => by have := g.t.lt q hq; omega] at ly
      have hsR : SqL K H3 R ys := SqL.of hR
      have gs := g.at_ hs
      have nl : liv.Nodup := (List.nodup_append.mp (g.pm.nodup_iff.mpr (upto_nd n))).1
      have hE3 := k3.at_ _ _ hE2 not_nil
      have hL3 := k3.at_ _ _ hL2 not_nil
      have hF3 := k3.at_ _ _ hF2 not_nil
      have px3 := px2.kp k3
      have hp3 := hp2.kp0 k3
      have k13 : Kp [p] H H3 := Kp.trans k1 (Kp.trans k2 k3.wide)
      have kEnd : ∀ {H' : Hp}, Kp [p, E, L, F] H H' → Kp [p] H H' := fun {H'} k => k.dropAll fun b hb => by
        simp only [List.mem_cons, List.not_mem_nil, or_false] at hb
        rcases hb with rfl | rfl | rfl | rfl
        · exact .inl List.mem_cons_self
        · exact .inr fE
        · exact .inr fL0
        · exact .inr fF0
      walk_at "gi"
      rw [ly]
      refine i_cutIf (fun σ H' => ∃ (m : Nat) (liv' fs' : List Int), σ = [some (.ref p), some (.int most), some (.int steps), some (.ref E), some (.ref L), some (.ref F), some (.int i), some (.int s), some (.int (nbR es s).length), some (.int m), o10, none] ∧
        Pot3 H' p ∧ Kp [p] H H' ∧ H' E = some (.lst xs) ∧ PrsAt H' xs es ∧ H' L = some (.lst (liv'.map V.int)) ∧ H' F = some (.lst (fs'.map V.int)) ∧ Gro n es liv' fs' s ∧ (fs'.length : Int) ≤ most ∧ m ≤ 3 ∧
        ((liv'.length ≤ 7 ∧ m = 3 - (nbR es s).length ∧ s ∈ fs' ∧ fs'.length = fs.length + 1) ∨ (m = 1 ∧ liv'.length ≤ 12 ∧ s ∉ fs' ∧ fs'.length = fs.length))) ?_ (fun D' go => ?_)
      · rintro σ H4 ⟨m, liv', fs', rfl, hp4, k4, hE4, px4, hL4, hF4, g4, lf4, m3, way⟩
        walk_at "gs"
        refine .inr ⟨_, rfl, ?_⟩
        rw [List.length_map]
        obtain ⟨tot, etot, ht3, hlv, hfr⟩ : ∃ tot : Nat, (m : Int) * (if decide ((liv'.length : Int) < 12) = true then 1 else 0) = tot ∧ tot + 2 * fs.length ≤ 1 + 2 * fs'.length ∧ liv'.length + tot ≤ 12 ∧ (s ∈ fs' → 3 ≤ (nbR es s).length + tot) := by
          by_cases c : liv'.length < 12
          · refine ⟨m, by rw [if_pos (decide_eq_true (by omega))]; omega, by omega, by omega, fun h => ?_⟩
            rcases way with ⟨w1, w2, w3, w4⟩ | ⟨w1, w2, w3, w4⟩
            · omega
            · exact absurd h w3
          · refine ⟨0, by rw [if_neg (by rw [decide_eq_true_eq]; omega)]; omega, by omega, by omega, fun h => ?_⟩
            rcases way with ⟨w1, w2, w3, w4⟩ | ⟨w1, w2, w3, w4⟩
            · omega
            · exact absurd h w3
        refine i_mulI (.inl ⟨by omega, by omega⟩) ?_
        rw [etot]
        walk_at "gs"
        refine i_turns (by omega) (by omega) (fun j σ H' => ∃ (o10 : Option V) (xs' : List V) (es' : List (Int × Int)) (lv : List Int) (n' : Nat), σ = [some (.ref p), some (.int most), some (.int steps), some (.ref E), some (.ref L), some (.ref F), some (.int i), some (.int s), some (.int (nbR es s).length), some (.int m), o10, none] ∧
          Pot3 H' p ∧ Kp [p] H H' ∧ H' E = some (.lst xs') ∧ PrsAt H' xs' es' ∧ H' L = some (.lst (lv.map V.int)) ∧ H' F = some (.lst (fs'.map V.int)) ∧ Gro n' es' lv fs' s ∧ (nbR es' s).length = (nbR es s).length + j ∧ lv.length = liv'.length + j ∧ n' = n + j) ?_ ?_ ?_
        · exact ⟨_, xs, es, liv', n, rfl, hp4, k4, hE4, px4, hL4, hF4, g4, rfl, rfl, rfl⟩
        · rintro j σ H5 hj ⟨_, xs', es', lv, n', rfl, hp5, k5, hE5, px5, hL5, hF5, g5, d5, l5, n5⟩
          have hsE5 : SqL K H5 E xs' := SqL.of hE5
          have lx5 := px5.len
          have le5 := g5.t.len
          walk_at "gs"
          refine i_new fun U fU => ?_
          have kU := Kp.new (ws := []) (o := HO.tup [.int s, .int (xs'.length + 1)]) fU
          have hU := fresh_at (o := HO.tup [.int s, .int (xs'.length + 1)]) fU
          have hE6 := kU.at_ _ _ hE5 not_nil
          have hL6 := kU.at_ _ _ hL5 not_nil
          have hF6 := kU.at_ _ _ hF5 not_nil
          have px6 := px5.kp kU
          have kk6 := Kp.trans k5 kU.wide
          have hp6 := hp5.kp0 kU
          obtain ⟨H6, e6⟩ : ∃ H6, H6 = upd H5 U (.tup [.int s, .int (xs'.length + 1)]) := ⟨_, rfl⟩
          rw [← e6] at hU hE6 hL6 hF6 px6 kk6 hp6 ⊢
          have nm : ((xs'.length : Int) + 1) = (n' : Int) := by omega
          walk_at "gs"
          refine i_app (upd_nn (Ne.symm nEL) hL6) (small_sz (by rw [List.length_map]; omega)) ?_
          have nm2 : ((xs' ++ [V.ref U]).length : Int) = (n' : Int) := by
            rw [List.length_append]
            exact nm
          rw [nm2, snoc_int']
          obtain ⟨g7, d7⟩ := g5.more
          have kM : Kp [E, L] H6 (upd (upd H6 E (.lst (xs' ++ [.ref U]))) L (.lst ((lv ++ [(n' : Int)]).map V.int))) :=
            Kp.trans (Kp.mut hE6 (fun z => z) (by simp)) (Kp.mut (upd_nn (Ne.symm nEL) hL6) (fun z => z) (by simp))
          have hU7 := kM.fix _ _ hU trivial
          rw [nm] at hU7
          refine ⟨_, xs' ++ [.ref U], es' ++ [(s, (n' : Int))], lv ++ [(n' : Int)], n' + 1, rfl, hp6.kp kM (not_two (Ne.symm npE) (Ne.symm npL)), kEnd (Kp.trans (kk6.mono fun b hb => by rw [List.mem_singleton.mp hb]; simp) (kM.mono fun b hb => by
              simp only [List.mem_cons, List.not_mem_nil, or_false] at hb ⊢
              rcases hb with rfl | rfl
              · exact .inr (.inl rfl)
              · exact .inr (.inr (.inl rfl)))), upd_nn nEL upd_same, PrsAt.snoc hU7 (px6.kp kM), upd_same, upd_nn (Ne.symm nLF) (upd_nn (Ne.symm nEF) hF6), g7, by omega, by rw [List.length_append, List.length_singleton]; omega, by omega⟩
        · rintro σ H5 ⟨_, xs', es', lv, n', rfl, hp5, k5, hE5, px5, hL5, hF5, g5, d5, l5, n5⟩
          have g6 := g5.done fun h => by have := hfr h; omega
          exact ⟨_, _, _, _, _, xs', es', lv, fs', n', rfl, hp5, k5, hE5, px5, hL5, hF5, g6, lf4, by omega, by omega, g6.ne⟩
      · have skip : ∀ H4, Pot3 H4 p → Kp [p] H3 H4 → D'.nx [some (.ref p), some (.int most), some (.int steps), some (.ref E), some (.ref L), some (.ref F), some (.int i), some (.int s), some (.int (nbR es s).length), some (.int (1 : Nat)), o10, none] H4 := fun H4 hp4 k4 => by
          refine go _ _ ⟨1, liv, fs, rfl, hp4, Kp.trans k13 k4, k4.at_ _ _ hE3 (not_one npE), px3.kp k4, k4.at_ _ _ hL3 (not_one npL), k4.at_ _ _ hF3 (not_one npF), gs, lf, by omega, .inr ⟨rfl, ll, fun h => ?_, rfl⟩⟩
          have nd := g.pm.nodup_iff.mpr (upto_nd n)
          exact (List.nodup_append.mp nd).2.2 s hs s h rfl
        walk_at "gs"
        refine i_dec (fun c1 => ?_) (fun c1 => ?_)
        · rw [List.length_map] at c1
          walk_at "gs"
          refine i_dec (fun c2 => ?_) (fun c2 => ?_)
          · rw [List.length_map] at c2
            walk_at "gs"
            refine use_take hp3 (by decide) (by decide) (fun r H4 r0 r1 hp4 k4 => ?_)
            walk_at "gs"
            refine i_dec (fun c3 => ?_) (fun c3 => ?_)
            · have hL4 := k4.at_ _ _ hL3 (not_one npL)
              have hF4 := k4.at_ _ _ hF3 (not_one npF)
              walk_at "gs"
              refine i_remove hL4 hs ?_
              have kX : Kp [p, L] H3 (upd H4 L (.lst ((liv.erase s).map V.int))) := Kp.trans (k4.mono fun b hb => by rw [List.mem_singleton.mp hb]; exact List.mem_cons_self) (Kp.mut hL4 (fun z => z) (by simp))
              have hF5 := upd_nn nLF.symm hF4 (o := HO.lst ((liv.erase s).map V.int))
              walk_at "gs"
              refine i_app hF5 (small_sz (by rw [List.length_map]; omega)) ?_
              rw [snoc_int', show max 0 (3 - ((nbR es s).length : Int)) = ((3 - (nbR es s).length : Nat) : Int) by omega]
              have kY : Kp [p, L, F] H3 (upd (upd H4 L (.lst ((liv.erase s).map V.int))) F (.lst ((fs ++ [s]).map V.int))) :=
                Kp.trans (kX.mono fun b hb => by
                  simp only [List.mem_cons, List.not_mem_nil, or_false] at hb ⊢
                  rcases hb with rfl | rfl
                  · exact .inl rfl
                  · exact .inr (.inl rfl)) (Kp.mut hF5 (fun z => z) (by simp))
              have ne3 : ∀ {c}, c ≠ p → c ≠ L → c ≠ F → c ∉ [p, L, F] := fun {c} a b d z => by
                simp only [List.mem_cons, List.not_mem_nil, or_false] at z
                rcases z with z | z | z
                · exact a z
                · exact b z
                · exact d z
              have le0 := List.length_erase_of_mem hs
              refine go _ _ ⟨3 - (nbR es s).length, liv.erase s, fs ++ [s], rfl, (hp4.kp (Kp.mut hL4 (fun z => z) (List.mem_singleton.mpr rfl)) (not_one (Ne.symm npL))).kp (Kp.mut hF5 (fun z => z) (List.mem_singleton.mpr rfl)) (not_one (Ne.symm npF)), kEnd (Kp.trans (k13.mono fun b hb => by rw [List.mem_singleton.mp hb]; simp) (kY.mono fun b hb => by
                  simp only [List.mem_cons, List.not_mem_nil, or_false] at hb ⊢
                  rcases hb with rfl | rfl | rfl
                  · exact .inl rfl
                  · exact .inr (.inr (.inl rfl))
                  · exact .inr (.inr (.inr rfl)))), kY.at_ _ _ hE3 (ne3 npE nEL nEF), px3.kp kY, upd_nn nLF upd_same, upd_same, g.free hs, by rw [List.length_append, List.length_singleton]; omega, by omega, .inl ⟨by omega, rfl, List.mem_append.mpr (.inr (List.mem_singleton.mpr rfl)), by rw [List.length_append, List.length_singleton]⟩⟩
            · walk_at "gs"
              exact skip H4 hp4 k4
          · walk_at "gs"
            exact skip H3 hp3 Kp.refl
        · walk_at "gs"
          exact skip H3 hp3 Kp.refl
    · rintro σ H1 ⟨o6, o7, o8, o9, o10, xs, es, liv, fs, n, rfl, hp1, k1, hE1, px, hL1, hF1, g, lf, ll, ln, ne⟩
      walk_at "gs"
      refine i_new fun R fR => ?_
      have kR := Kp.new (ws := []) (o := HO.tup [.ref E, .ref L, .ref F]) fR
      exact k R E L F xs es liv fs n _ (hp1.kp0 kR) (Kp.trans k1 kR.wide) upd_same (kR.at_ _ _ hE1 not_nil) (px.kp kR) (kR.at_ _ _ hL1 not_nil) (kR.at_ _ _ hF1 not_nil) fE fL0 fF0 g lf ll (by omega)

/-! ### mixed -/
theorem erase_map {f : Int → V} : ∀ (l : List Int) (k : Nat), (l.map f).eraseIdx k = (l.eraseIdx k).map f
  | [], _ => rfl
  | _ :: _, 0 => rfl
  | a :: l, k + 1 => by
    rw [List.map_cons, List.eraseIdx_cons_succ, List.eraseIdx_cons_succ, List.map_cons, erase_map l k]
theorem erase_perm : ∀ (l : List Int) (k : Nat) (h : k < l.length), (l[k] :: l.eraseIdx k).Perm l
  | [], _, h => absurd h (by simp)
  | _ :: _, 0, _ => .refl _
  | a :: l, k + 1, h => by
    rw [List.eraseIdx_cons_succ, List.getElem_cons_succ]
    exact (List.Perm.swap _ _ _).trans ((erase_perm l k (by simpa using h)).cons a)
theorem i_popAt {H : Hp} {Q : VK} {l : Addr} {ns : List Int} {k : Nat} (hl : H l = some (.lst (ns.map V.int))) (hk : k < ns.length) (hz : ns.length ≤ 1000000) (q : Q (.int ns[k]) (upd H l (.lst ((ns.eraseIdx k).map V.int)))) : rPopAt (.ref l) [.int (k : Nat)] H Q := by
  refine ⟨l, _, (k : Nat), k, .int ns[k], rfl, rfl, hl, by omega, by omega, ?_, ?_, ?_⟩
  · have h0 : ¬ ((k : Nat) : Int) < 0 := by omega
    simp only [seqIndex?, List.length_map, if_neg h0]
    rw [if_pos (by simp; omega), Int.toNat_natCast]
  · rw [List.getElem?_map, List.getElem?_eq_getElem hk]
    rfl
  · rw [erase_map]
    exact q
theorem k_bm {X : Cx} {K : PySem.W.Frag} {T id : String} {name : Str} {r : V → List V → Hp → VK → Prop} {o e : Expr} {es : List Expr} {to : TE} {t : TA} {apos cpos : Pos} (h : X.K = K) (pa : PlainAttrs T) (slot : Slot T name id) (hty : typeOf (.builtin id) = pure (.type "method_descriptor")) (hm : MtR X id r) (ho : PE X o to) (ha : PA X (e :: es) t)
    (hbase : attributeBase o name X.env (eval o X.env) = eval o X.env := by rfl)
    (hfew : ((backTo cpos (starEach (e :: es) X.env)).all (fun x => !x.1) && (backToKw cpos (keywordEach [] X.env)).all (fun x => x.1.isSome)
      && decide ((e :: es).length + ([] : List Keyword).length + (if ([] : List Keyword).isEmpty then 0 else 1) < 30)) = true := by rfl)
    (hline : (apos.endLine == cpos.line) = true := by rfl) (hs : starEach (e :: es) X.env = (false, eval e X.env) :: starEach es X.env := by rfl) (hplain : (backTo cpos (starEach es X.env)).any (·.1) = false := by rfl) :
    PE X (.Call (.Attribute o name apos) (e :: es) [] cpos) (tBM K T r to t) := h ▸ pe_bm pa slot hty hm ho ha hbase hfew hline hs hplain

theorem rg_upto (n : Int) (h : 0 ≤ n) : rgV 0 n = (upto n.toNat).map V.int := by
  unfold rgV upto
  rw [List.map_map, Int.sub_zero]
  refine List.map_congr_left fun i _ => ?_
  show V.int (0 + (i : Int)) = V.int (i : Int)
  rw [Int.zero_add]
theorem i_listRg {te : L2.St → Hp → (Int → Int → Hp → Prop) → Prop} {σ : L2.St} {H : Hp} {Q : VK} (h : te σ H fun a b H1 => RgOk a b ∧ New H1 fun q => Q (.ref q) (upd H1 q (.lst (rgV a b)))) : tLstRg te σ H Q := h
theorem i_rg1 {ta : TE} {σ : L2.St} {H : Hp} {Q : Int → Int → Hp → Prop} (h : ta σ H fun x H1 => ∃ n, x = .int n ∧ Q 0 n H1) : tRg1 ta σ H Q := h
theorem Tre.nd_named {n : Nat} {es : List (Int × Int)} {f : Int → Int} (t : Tre n es) (inj : ∀ x y : Int, (0 ≤ x ∧ x < n) → (0 ≤ y ∧ y < n) → f x = f y → x = y) : (es.map (edN f)).Nodup := by
  refine List.pairwise_map.mpr (t.nd.imp_of_mem fun {p q} hp hq n e => n ?_)
  obtain ⟨a, b, c⟩ := t.lt p hp
  obtain ⟨a', b', c'⟩ := t.lt q hq
  have e1 := congrArg Prod.fst e
  have e2 := congrArg Prod.snd e
  unfold edN at e1 e2
  simp only at e1 e2
  have k : (f p.1 = f q.1 ∧ f p.2 = f q.2) ∨ (f p.1 = f q.2 ∧ f p.2 = f q.1) := by omega
  rcases k with ⟨k1, k2⟩ | ⟨k1, k2⟩
  · exact Prod.ext (inj _ _ (by omega) (by omega) k1) (inj _ _ (by omega) (by omega) k2)
  · have := inj _ _ (by omega) (by omega) k1
    have := inj _ _ (by omega) (by omega) k2
    omega
/-- a drawn tree, as ties_of takes it -/
structure Drawn (ever : Int) (liv fs : List Int) (rs : List (Int × Int)) : Prop where
  ex : ∃ D, Tr3 D ever liv (liv ++ fs) (nbR rs)
  sl : liv.Pairwise (· < ·)
  sf : fs.Pairwise (· < ·)
  ro : RowsOf (liv ++ fs) (nbR rs) rs
  ne : liv ≠ []
theorem Drawn.fo {ever : Int} {liv fs : List Int} {rs : List (Int × Int)} (d : Drawn ever liv fs rs) : FreeOf liv (liv ++ fs) fs := by
  obtain ⟨D, z⟩ := d.ex
  refine ⟨d.sf, fun x => ?_⟩
  have nd := List.nodup_append.mp z.nk
  rw [List.mem_append]
  exact ⟨fun h => ⟨.inr h, fun h2 => nd.2.2 x h2 x h rfl⟩, fun h => h.1.resolve_left h.2⟩
def sp_tree3 (K : PySem.W.Frag) : Sp := fun vs H Q _ => ∃ (p : Addr) (most steps : Int), vs = [.ref p, .int most, .int steps] ∧ Pot3 H p ∧ (0 ≤ most ∧ most ≤ 100) ∧ (0 ≤ steps ∧ steps ≤ 30) ∧
  ∀ R L F W ever liv fs rs H', Pot3 H' p → Kp [p] H H' → H' R = some (.tup [.int ever, .ref L, .ref F, .ref W]) → H' L = some (.lst (liv.map V.int)) → H' F = some (.lst (fs.map V.int)) → LD K H' W (rs.map d2) → Fr H L → Fr H F → Fr H W →
    Drawn ever liv fs rs → (fs.length : Int) ≤ most → liv.length ≤ 12 → ever ≤ 4 + steps + 2 * fs.length → Q (.ref R) H'
theorem sc_law_tree : FnScope ["_law_pot_here", "_law_most", "_law_steps", "_law_edges", "_law_living", "_law_free", "_law_names", "_law_ever", "_law_order", "_law_rows", "_law_a", "_law_b"] ["_law_pot_here", "_law_most", "_law_steps"] (defScope s_law_tree) :=
  ⟨rfl, rfl, rfl, by decide +kernel, rfl, by decide +kernel, by decide +kernel⟩
theorem ok_law_tree {P : Program} {w : World} {K : PySem.W.Frag} {mg : Str → Option Value} {base : Heap} (T : Txt K mg) :
    FnG P w K mg base 4 T.a_law_tree T.d_law_tree ["_law_pot_here", "_law_most", "_law_steps"] (sp_tree3 K) := by
  refine okD T.F_law_tree sc_law_tree (fun vs H Q E h => ?_) (fun cdv A outer s H vs Q E hr h => ?_)
  · first
      | (obtain ⟨_, rfl, _⟩ := h; rfl)
      | (obtain ⟨_, _, rfl, _⟩ := h; rfl)
      | (obtain ⟨_, _, _, rfl, _⟩ := h; rfl)
      | (obtain ⟨_, _, _, _, rfl, _⟩ := h; rfl)
      | (obtain ⟨_, _, _, _, _, rfl, _⟩ := h; rfl)
      | (obtain ⟨_, _, _, _, _, _, rfl, _⟩ := h; rfl)
      | (obtain ⟨_, _, _, _, _, _, _, rfl, _⟩ := h; rfl)
      | (obtain ⟨_, _, _, _, _, _, _, _, rfl, _⟩ := h; rfl)
      | (obtain ⟨_, _, _, _, _, _, _, _, _, rfl, _⟩ := h; rfl)
      | (obtain ⟨_, _, _, _, _, _, _, _, _, _, rfl, _⟩ := h; rfl)
      | (obtain ⟨_, _, _, _, _, _, _, _, _, _, _, rfl, _⟩ := h; rfl)
      | (obtain ⟨_, _, _, _, _, _, _, _, _, _, _, _, rfl, _⟩ := h; rfl)
      | (obtain ⟨_, _, _, _, _, _, _, _, _, _, _, _, _, rfl, _⟩ := h; rfl)
      | (obtain ⟨_, _, _, _, _, _, _, _, _, _, _, _, _, _, rfl, _⟩ := h; rfl)
      | (obtain ⟨_, _, _, _, _, _, _, _, _, _, _, _, _, _, _, rfl, _⟩ := h; rfl)
      | (obtain ⟨_, _, _, _, _, _, _, _, _, _, _, _, _, _, _, _, rfl, _⟩ := h; rfl)
      | (obtain ⟨_, _, _, _, _, _, _, _, _, _, _, _, _, _, _, _, _, rfl, _⟩ := h; rfl)
      | (obtain ⟨_, _, _, _, _, _, _, _, _, _, _, _, _, _, _, _, _, _, rfl, _⟩ := h; rfl)
      | (obtain ⟨_, _, _, _, _, _, _, _, _, _, _, _, _, _, _, _, _, _, _, rfl, _⟩ := h; rfl)
  · obtain ⟨p, most, steps, rfl, hp, hm, hst, k⟩ := h
    have cl_Ties := T.cl_Ties
    have na_Ties_near := T.na_Ties_near
    have na_Ties_own_ever := T.na_Ties_own_ever
    have na_Ties_own_living := T.na_Ties_own_living
    refine ⟨_, (pss_cons (ps_asg (d1 (ok_law_grown T) (hr.mono (by decide)) (by rfl) T.m_law_grown T.F_law_grown.kp T.b_law_grown passL (pa_cons (pv 0) (pa_cons (pv 1) (pa_cons (pv 2) pa_nil)))) (k_gtup (K := K) 3 rfl rfl (pgs_cons (pg_name (i := 3) sc_law_tree.nd rfl (Or.inl rfl)) (pgs_cons (pg_name (i := 4) sc_law_tree.nd rfl (Or.inl rfl)) (pgs_cons (pg_name (i := 5) sc_law_tree.nd rfl (Or.inl rfl)) pgs_nil)))))
      (pss_cons (ps_set (i := 6) sc_law_tree.nd rfl (Or.inl rfl) (pe_listRg rfl (by rfl) T.n_list (prg_1 (by rfl) T.n_range (pe_op (k_add (K := K) rfl) (pe_op (k_add (K := K) rfl) (pe_callB (k_len (K := K) rfl) (by rfl) T.n_len (by decide +kernel) (pa_cons (pv 3) pa_nil)) pe_int) (d1 (ok_law_take T) (hr.mono (by decide)) (by rfl) T.m_law_take T.F_law_take.kp T.b_law_take passL (pa_cons (pv 0) (pa_cons pe_int pa_nil)))))))
      (pss_cons (ps_asg (pe_tup (pa_cons (pe_callB (k_len (K := K) rfl) (by rfl) T.n_len (by decide +kernel) (pa_cons (pv 6) pa_nil)) (pa_cons (pe_lst pa_nil) pa_nil))) (k_gtup (K := K) 2 rfl rfl (pgs_cons (pg_name (i := 7) sc_law_tree.nd rfl (Or.inl rfl)) (pgs_cons (pg_name (i := 8) sc_law_tree.nd rfl (Or.inr rfl)) pgs_nil))))
      (pss_cons (ps_while (passes_of rfl) (pt_cmpR op_le (pe_callB (k_len (K := K) rfl) (by rfl) T.n_len (by decide +kernel) (pa_cons (pv 8) pa_nil)) (pe_callB (k_len (K := K) rfl) (by rfl) T.n_len (by decide +kernel) (pa_cons (pv 3) pa_nil)) (nomark _)) (pss_one (ps_expr (pe_bm PySem.F.plainAttrs_list PySem.F.slot_list_append PySem.F.type_list_append mt_append (pv 8) (pa_cons (pe_bm PySem.F.plainAttrs_list PySem.F.slot_list_pop PySem.F.type_list_pop mt_popAt (pv 6) (pa_cons (d1 (ok_law_take T) (hr.mono (by decide)) (by rfl) T.m_law_take T.F_law_take.kp T.b_law_take passL (pa_cons (pv 0) (pa_cons (pe_callB (k_len (K := K) rfl) (by rfl) T.n_len (by decide +kernel) (pa_cons (pv 6) pa_nil)) pa_nil))) pa_nil)) pa_nil)))))
      (pss_cons (ps_set (i := 9) sc_law_tree.nd rfl (Or.inl rfl) (pe_callB (k_sortedP (K := K) rfl) (by rfl) T.n_sorted (by decide +kernel) (pa_cons (pe_lc (own := [("_law_a", 10), ("_law_b", 11)]) (g := (gTup K 2 (gCons (gName 10) (gCons (gName 11) gNil)))) (tt := tYes) rfl sc_law_tree.nd (k_plist (K := K) rfl (pv 3)) (blkOk_by (own := [("_law_a", 10), ("_law_b", 11)]) (N := ["_law_pot_here", "_law_most", "_law_steps", "_law_edges", "_law_living", "_law_free", "_law_names", "_law_ever", "_law_order", "_law_rows", "_law_a", "_law_b"]) (sc := defScope s_law_tree) (by decide +kernel)) (fun _ _ _ _ _ => (k_gtup (K := K) 2 rfl rfl (pgs_cons (pg_name (i := 10) sc_law_tree.nd rfl (Or.inl rfl)) (pgs_cons (pg_name (i := 11) sc_law_tree.nd rfl (Or.inl rfl)) pgs_nil)))) (fun _ _ _ _ _ => pts_nil) (fun _ _ _ _ _ => (pe_tup (pa_cons (pe_callB (c_min2 rfl) (by rfl) T.n_min (by decide +kernel) (pa_cons (pe_ix (k_ix (K := K) rfl) (pv 8) (pv 10) (fun _ _ => rfl)) (pa_cons (pe_ix (k_ix (K := K) rfl) (pv 8) (pv 11) (fun _ _ => rfl)) pa_nil))) (pa_cons (pe_callB (c_max2 rfl) (by rfl) T.n_max (by decide +kernel) (pa_cons (pe_ix (k_ix (K := K) rfl) (pv 8) (pv 10) (fun _ _ => rfl)) (pa_cons (pe_ix (k_ix (K := K) rfl) (pv 8) (pv 11) (fun _ _ => rfl)) pa_nil))) pa_nil))))) pa_nil)))
      (pss_one (ps_ret (pe_tup (pa_cons (pv 7) (pa_cons (pe_callB (k_sorted (K := K) rfl) (by rfl) T.n_sorted (by decide +kernel) (pa_cons (pe_lc (own := [("_law_a", 10)]) (g := (gName 10)) (tt := tYes) rfl sc_law_tree.nd (k_plist (K := K) rfl (pv 4)) (blkOk_by (own := [("_law_a", 10)]) (N := ["_law_pot_here", "_law_most", "_law_steps", "_law_edges", "_law_living", "_law_free", "_law_names", "_law_ever", "_law_order", "_law_rows", "_law_a", "_law_b"]) (sc := defScope s_law_tree) (by decide +kernel)) (fun _ _ _ _ _ => (pg_name (i := 10) sc_law_tree.nd rfl (Or.inl rfl))) (fun _ _ _ _ _ => pts_nil) (fun _ _ _ _ _ => (pe_ix (k_ix (K := K) rfl) (pv 8) (pv 10) (fun _ _ => rfl)))) pa_nil)) (pa_cons (pe_callB (k_sorted (K := K) rfl) (by rfl) T.n_sorted (by decide +kernel) (pa_cons (pe_lc (own := [("_law_a", 10)]) (g := (gName 10)) (tt := tYes) rfl sc_law_tree.nd (k_plist (K := K) rfl (pv 5)) (blkOk_by (own := [("_law_a", 10)]) (N := ["_law_pot_here", "_law_most", "_law_steps", "_law_edges", "_law_living", "_law_free", "_law_names", "_law_ever", "_law_order", "_law_rows", "_law_a", "_law_b"]) (sc := defScope s_law_tree) (by decide +kernel)) (fun _ _ _ _ _ => (pg_name (i := 10) sc_law_tree.nd rfl (Or.inl rfl))) (fun _ _ _ _ _ => pts_nil) (fun _ _ _ _ _ => (pe_ix (k_ix (K := K) rfl) (pv 8) (pv 10) (fun _ _ => rfl)))) pa_nil)) (pa_cons (pv 9) pa_nil)))))))))))), ?_⟩
    dsimp only [cxOf, st_1, st_2, st_3, st_4, st_5, st_6, List.length_cons, List.length_nil, List.replicate_succ, List.replicate_zero, Nat.reduceAdd, Nat.reduceSub]
    walk_at "gs"
    refine ⟨p, most, steps, rfl, hp, hm, hst, fun R E L F xs es liv fs n H1 hp1 k1 hR hE px hL hF fE fL fF g lf ll ln => ?_⟩
    have hsR : SqT K H1 R [.ref E, .ref L, .ref F] := SqT.of hR
    walk_at "gs"
    refine i_listRg ?_
    refine i_rg1 ?_
    have hsE : SqL K H1 E xs := SqL.of hE
    have lx := px.len
    have le := g.t.len
    walk_at "gs"
    refine use_take hp1 (by decide) (by decide) (fun r H2 r0 r1 hp2 k2 => ?_)
    obtain ⟨r, rfl⟩ := Int.eq_ofNat_of_zero_le r0
    walk_at "gs"
    refine ⟨RgOk.of_le (by omega) (by omega) (by omega) (by omega), i_new fun N fN => ?_⟩
    rw [rg_upto _ (by omega), show ((xs.length : Int) + 1 + (r : Nat)).toNat = n + r by omega]
    have hN := fresh_at (o := HO.lst ((upto (n + r)).map V.int)) fN
    have kN := Kp.new (ws := []) (o := HO.lst ((upto (n + r)).map V.int)) fN
    obtain ⟨H3, e3⟩ : ∃ H3, H3 = upd H2 N (.lst ((upto (n + r)).map V.int)) := ⟨_, rfl⟩
    rw [← e3] at hN kN ⊢
    have hsN : SqL K H3 N ((upto (n + r)).map V.int) := SqL.of hN
    walk_at "gs"
    refine i_new fun O fO => ?_
    walk_at "gs"
    refine i_new fun T0 fT0 => ?_
    rw [List.length_map, upto_len]
    have kO := Kp.new (ws := []) (o := HO.lst []) fO
    have kT := Kp.new (ws := []) (o := HO.tup [.int (n + r : Nat), .ref O]) fT0
    have hT := fresh_at (o := HO.tup [.int (n + r : Nat), .ref O]) fT0
    have hO := kT.at_ _ _ (fresh_at (o := HO.lst []) fO) not_nil
    have nNO : N ≠ O := fr_ne hN fO
    have npN : N ≠ p := Ne.symm (hp2.ne fN)
    have k03 : Kp [p] H H3 := Kp.trans k1 (Kp.trans k2 kN.wide)
    have hp3 := hp2.kp0 kN
    have npO : O ≠ p := Ne.symm (hp3.ne fO)
    have kOT := Kp.trans kO kT
    have hp4 := hp3.kp0 kOT
    have k04 : Kp [p] H (upd (upd H3 O (.lst [])) T0 (.tup [.int (n + r : Nat), .ref O])) := Kp.trans k03 kOT.wide
    have hN4 := kOT.at_ _ _ hN not_nil
    have k24 : Kp [] H2 (upd (upd H3 O (.lst [])) T0 (.tup [.int (n + r : Nat), .ref O])) := Kp.trans kN kOT
    have npE : E ≠ p := Ne.symm (hp.ne fE)
    have npL : L ≠ p := Ne.symm (hp.ne fL)
    have npF : F ≠ p := Ne.symm (hp.ne fF)
    have hE2 := k2.at_ _ _ hE (not_one npE)
    have hL2 := k2.at_ _ _ hL (not_one npL)
    have hF2 := k2.at_ _ _ hF (not_one npF)
    have px2 := px.kp k2
    have fN0 : Fr H N := (Kp.trans k1 k2).free fN
    have fO0 : Fr H O := k03.free fO
    have nEO : E ≠ O := fr_ne (kN.at_ _ _ hE2 not_nil) fO
    have nEN : E ≠ N := fr_ne hE2 fN
    have nLN : L ≠ N := fr_ne hL2 fN
    have nLO : L ≠ O := fr_ne (kN.at_ _ _ hL2 not_nil) fO
    have nFN : F ≠ N := fr_ne hF2 fN
    have nFO : F ≠ O := fr_ne (kN.at_ _ _ hF2 not_nil) fO
    have hE4 := k24.at_ _ _ hE2 not_nil
    have hL4 := k24.at_ _ _ hL2 not_nil
    have hF4 := k24.at_ _ _ hF2 not_nil
    have px4 := px2.kp k24
    obtain ⟨H4, e4⟩ : ∃ H4, H4 = upd (upd H3 O (.lst [])) T0 (.tup [.int (n + r : Nat), .ref O]) := ⟨_, rfl⟩
    rw [← e4] at hT hO hp4 k04 hN4 hE4 hL4 hF4 px4 ⊢
    have hsT : SqT K H4 T0 [.int (n + r : Nat), .ref O] := SqT.of hT
    walk_at "gs"
    have ndU := upto_nd (n + r)
    have ni3 : ∀ {c}, c ≠ p → c ≠ O → c ≠ N → c ∉ [p, O, N] := fun {c} a b d z => by
      simp only [List.mem_cons, List.not_mem_nil, or_false] at z
      rcases z with z | z | z
      · exact a z
      · exact b z
      · exact d z
    refine i_while (fun m σ H' => ∃ ord nms : List Int, σ = [some (.ref p), some (.int most), some (.int steps), some (.ref E), some (.ref L), some (.ref F), some (.ref N), some (.int (n + r : Nat)), some (.ref O), none, none, none] ∧
      Pot3 H' p ∧ Kp [p, O, N] H4 H' ∧ H' O = some (.lst (ord.map V.int)) ∧ H' N = some (.lst (nms.map V.int)) ∧ (ord ++ nms).Perm (upto (n + r)) ∧ ord.length + m = n) n ⟨[], upto (n + r), rfl, hp4, Kp.refl, hO, hN4, .refl _, by simp⟩ ?_
    rintro m σ H5 ⟨ord, nms, rfl, hp5, k5, hO5, hN5, pm, lo⟩
    have lpm := pm.length_eq
    rw [List.length_append, upto_len] at lpm
    have hE5 := k5.at_ _ _ hE4 (ni3 npE nEO nEN)
    have hsO5 : SqL K H5 O (ord.map V.int) := SqL.of hO5
    have hsE5 : SqL K H5 E xs := SqL.of hE5
    walk_at "gs"
    rw [List.length_map]
    refine i_dec (fun c => ?_) (fun c => ?_)
    · refine i_loop ?_
      have hsN5 : SqL K H5 N (nms.map V.int) := SqL.of hN5
      walk_at "gs"
      refine use_take hp5 (by rw [List.length_map]; omega) (by rw [List.length_map]; omega) (fun j H6 j0 j1 hp6 k6 => ?_)
      rw [List.length_map] at j1
      obtain ⟨j, rfl⟩ := Int.eq_ofNat_of_zero_le j0
      have hN6 := k6.at_ _ _ hN5 (not_one npN)
      have hO6 := k6.at_ _ _ hO5 (not_one npO)
      have hj : j < nms.length := by omega
      walk_at "gs"
      refine i_popAt hN6 hj (by omega) ?_
      have hO7 := upd_nn (Ne.symm nNO) hO6 (o := HO.lst ((nms.eraseIdx j).map V.int))
      walk_at "gs"
      refine i_app hO7 (small_sz (by rw [List.length_map]; omega)) ?_
      rw [snoc_int']
      have kM : Kp [O, N] H6 (upd (upd H6 N (.lst ((nms.eraseIdx j).map V.int))) O (.lst ((ord ++ [nms[j]]).map V.int))) :=
        Kp.trans (Kp.mut hN6 (fun z => z) (by simp)) (Kp.mut hO7 (fun z => z) (by simp))
      refine ⟨m - 1, by omega, ord ++ [nms[j]], nms.eraseIdx j, rfl, hp6.kp kM (not_two (Ne.symm npO) (Ne.symm npN)), Kp.trans k5 (Kp.trans (k6.mono fun b hb => by rw [List.mem_singleton.mp hb]; simp) (kM.mono fun b hb => List.mem_cons_of_mem _ hb)), upd_same, upd_nn nNO upd_same, ?_, by rw [List.length_append, List.length_singleton]; omega⟩
      rw [List.append_assoc]
      exact ((erase_perm nms j hj).append_left ord).trans pm
    have lon : ord.length = n := by omega
    obtain ⟨f, hf⟩ : ∃ f : Int → Int, ∀ x : Int, 0 ≤ x → x < n → ord[x.toNat]? = some (f x) :=
      ⟨fun x => ord[x.toNat]?.getD 0, fun x a b => by show ord[x.toNat]? = some (ord[x.toNat]?.getD 0); rw [List.getElem?_eq_getElem (show x.toNat < ord.length by omega)]; rfl⟩
    have ndO : ord.Nodup := (List.nodup_append.mp (pm.nodup_iff.mpr ndU)).1
    have inj : ∀ x y : Int, (0 ≤ x ∧ x < n) → (0 ≤ y ∧ y < n) → f x = f y → x = y := fun x y hx hy e => by
      have h1 := hf x hx.1 hx.2
      have h2 := hf y hy.1 hy.2
      rw [e, ← h2] at h1
      have := (List.getElem?_inj (show x.toNat < ord.length by omega) ndO).mp h1
      omega
    have fU : ∀ x : Int, 0 ≤ x → x < n → Un (n + r : Nat) (f x) := fun x a b => by
      have m1 := List.mem_of_getElem? (hf x a b)
      exact mem_upto.mp (pm.mem_iff.mp (List.mem_append.mpr (.inl m1)))
    have at_ : ∀ x : Int, 0 ≤ x → x < n → atI (ord.map V.int) x = some (.int (f x)) := fun x a b => by
      obtain ⟨x, rfl⟩ := Int.eq_ofNat_of_zero_le a
      exact atI_nat (by rw [List.getElem?_map]; have := hf x a b; rw [Int.toNat_natCast] at this; rw [this]; rfl)
    have hL5 := k5.at_ _ _ hL4 (ni3 npL nLO nLN)
    have hF5 := k5.at_ _ _ hF4 (ni3 npF nFO nFN)
    have px5 := px4.kp k5
    have k05 : Kp [p] H H5 := (Kp.trans (k04.mono (us := [p, O, N]) fun b hb => by rw [List.mem_singleton.mp hb]; simp) k5).dropAll fun b hb => by
      simp only [List.mem_cons, List.not_mem_nil, or_false] at hb
      rcases hb with rfl | rfl | rfl
      · exact .inl List.mem_cons_self
      · exact .inr fO0
      · exact .inr fN0
    walk_at "gs"
    refine i_elts hsE5 (fun R i H' => Kp [] H5 H' ∧ ∃ ys, H' R = some (.lst ys) ∧ PrsAt H' ys ((es.take i).map (edN f))) ?_ ?_ ?_ ?_
    · intro R fR
      exact ⟨Kp.new fR, [], upd_same, trivial⟩
    · rintro R i H' fR _ ⟨kk, _⟩
      exact kk.seqL not_nil hsE5
    · rintro R i y H' fR hy ⟨kk, ys, hR, py⟩
      obtain ⟨t, q, hq, rfl, ht⟩ := prs_get (px5.kp kk) hy
      have hst : SqT K H' t [.int q.1, .int q.2] := SqT.of ht
      have hqm := g.t.lt q (List.mem_of_getElem? hq)
      have a1 := at_ q.1 (by omega) (by omega)
      have a2 := at_ q.2 (by omega) (by omega)
      have hsO : SqL K H' O (ord.map V.int) := kk.seqL not_nil hsO5
      have ly := py.len
      have lt : (es.take i).length ≤ es.length := by rw [List.length_take]; omega
      rw [List.length_map] at ly
      walk_at "gs"
      refine i_new fun U fU => ?_
      have kU := Kp.new (ws := []) (o := HO.tup [.int (min (f q.1) (f q.2)), .int (max (f q.1) (f q.2))]) fU
      have nRU : R ≠ U := fr_ne hR fU
      walk_at "gs"
      refine ⟨_, kU.at_ _ _ hR not_nil, small_sz (by omega), Kp.upd (Kp.trans kk kU) fR, _, upd_same, ?_⟩
      rw [List.take_add_one, hq, Option.toList_some, List.map_append]
      have hU : (upd (upd H' U (.tup [.int (min (f q.1) (f q.2)), .int (max (f q.1) (f q.2))])) R (.lst (ys ++ [.ref U]))) U = some (.tup [.int (edN f q).1, .int (edN f q).2]) := upd_nn (Ne.symm nRU) upd_same
      refine PrsAt.snoc hU ((py.kp kU).kp (Kp.mut (ws := [R]) (kU.at_ _ _ hR not_nil) (fun z => z) (List.mem_singleton.mpr rfl)))
    rintro Y H6 fY ⟨k6, ys, hY, py⟩
    rw [lx, List.take_length] at py
    walk_at "gs"
    refine i_sortedP hY py (g.t.nd_named inj) fun rs W H7 fW k7 ld7 prs srt => ?_
    have k57 := Kp.trans k6 k7
    have hL7 := k57.at_ _ _ hL5 not_nil
    have hsL7 : SqL K H7 L (liv.map V.int) := SqL.of hL7
    have hO7 := k57.at_ _ _ hO5 not_nil
    have hF7 := k57.at_ _ _ hF5 not_nil
    have mU : ∀ x ∈ liv ++ fs, 0 ≤ x ∧ x < n := fun x hx => mem_upto.mp (g.pm.mem_iff.mp hx)
    have ndLF := g.pm.nodup_iff.mpr (upto_nd n)
    have lfs : fs.length ≤ n := by
      have := g.pm.length_eq
      rw [List.length_append, upto_len] at this
      omega
    walk_at "gs"
    refine i_elts hsL7 (fun R i H' => Kp [] H7 H' ∧ H' R = some (.lst (((liv.take i).map f).map V.int))) ?_ ?_ ?_ ?_
    · intro R fR
      exact ⟨Kp.new fR, upd_same⟩
    · rintro R i H' fR _ ⟨kk, _⟩
      exact kk.seqL not_nil hsL7
    · rintro R i y H' fR hy ⟨kk, hR⟩
      obtain ⟨x, hx, e⟩ := map_get hy
      subst e
      have hxm := mU x (List.mem_append.mpr (.inl (List.mem_of_getElem? hx)))
      have a1 := at_ x hxm.1 hxm.2
      have hsO : SqL K H' O (ord.map V.int) := kk.seqL not_nil (SqL.of hO7)
      walk_at "gs"
      have lt : (liv.take i).length ≤ liv.length := by rw [List.length_take]; omega
      refine ⟨_, hR, small_sz (by rw [List.length_map, List.length_map]; omega), Kp.upd kk fR, ?_⟩
      rw [List.take_add_one, hx, Option.toList_some, List.map_append, List.map_append]
      exact upd_same
    rintro Y2 H8 fY2 ⟨k8, hY2⟩
    rw [List.length_map, List.take_length] at hY2
    have hsY2 : SqL K H8 Y2 ((liv.map f).map V.int) := SqL.of hY2
    walk_at "gs"
    refine i_sorted hsY2 fun us S1 pu su fS1 => ?_
    have kS1 := Kp.new (ws := []) (o := HO.lst (us.map V.int)) fS1
    have hS1 := fresh_at (o := HO.lst (us.map V.int)) fS1
    obtain ⟨H9, e9⟩ : ∃ H9, H9 = upd H8 S1 (.lst (us.map V.int)) := ⟨_, rfl⟩
    rw [← e9] at kS1 hS1 ⊢
    have k79 := Kp.trans k8 kS1
    have hF9 := k79.at_ _ _ hF7 not_nil
    have hO9 := k79.at_ _ _ hO7 not_nil
    have hsF9 : SqL K H9 F (fs.map V.int) := SqL.of hF9
    walk_at "gs"
    refine i_elts hsF9 (fun R i H' => Kp [] H9 H' ∧ H' R = some (.lst (((fs.take i).map f).map V.int))) ?_ ?_ ?_ ?_
    · intro R fR
      exact ⟨Kp.new fR, upd_same⟩
    · rintro R i H' fR _ ⟨kk, _⟩
      exact kk.seqL not_nil hsF9
    · rintro R i y H' fR hy ⟨kk, hR⟩
      obtain ⟨x, hx, e⟩ := map_get hy
      subst e
      have hxm := mU x (List.mem_append.mpr (.inr (List.mem_of_getElem? hx)))
      have a1 := at_ x hxm.1 hxm.2
      have hsO : SqL K H' O (ord.map V.int) := kk.seqL not_nil (SqL.of hO9)
      walk_at "gs"
      have lt : (fs.take i).length ≤ fs.length := by rw [List.length_take]; omega
      refine ⟨_, hR, small_sz (by rw [List.length_map, List.length_map]; omega), Kp.upd kk fR, ?_⟩
      rw [List.take_add_one, hx, Option.toList_some, List.map_append, List.map_append]
      exact upd_same
    rintro Y3 H10 fY3 ⟨k10, hY3⟩
    rw [List.length_map, List.take_length] at hY3
    have hsY3 : SqL K H10 Y3 ((fs.map f).map V.int) := SqL.of hY3
    walk_at "gs"
    refine i_sorted hsY3 fun vs S2 pv sv fS2 => ?_
    have kS2 := Kp.new (ws := []) (o := HO.lst (vs.map V.int)) fS2
    have hS2 := fresh_at (o := HO.lst (vs.map V.int)) fS2
    walk_at "gs"
    refine i_new fun Z fZ => ?_
    have kZ := Kp.new (ws := []) (o := HO.tup [.int (n + r : Nat), .ref S1, .ref S2, .ref W]) fZ
    walk_at "gs"
    have k9Z := Kp.trans k10 (Kp.trans kS2 kZ)
    have k7Z := Kp.trans k79 k9Z
    have k5Z := Kp.trans k57 k7Z
    have p0 := g.pm.map f
    rw [List.map_append] at p0
    have p1 : (us ++ vs).Perm ((upto n).map f) := (pu.append pv).trans p0
    have ndI : ((upto n).map f).Nodup := List.pairwise_map.mpr ((upto_nd n).imp_of_mem fun {a b} ha hb n q => n (inj a b (mem_upto.mp ha) (mem_upto.mp hb) q))
    have ndUV := p1.nodup_iff.mpr ndI
    obtain ⟨D, z, _, rm⟩ := g.t.tr3 (ever := (n + r : Nat)) (liv := us) (fs := vs) (rs := rs) fU inj p1 prs fun x hx u a b e => by
      obtain ⟨v, hv, e2⟩ := List.mem_map.mp (pv.mem_iff.mp hx)
      have hv2 := mU v (List.mem_append.mpr (.inr hv))
      have e3 := inj v u hv2 ⟨a, b⟩ (by rw [e2, e])
      rw [← e3]
      exact g.red v hv
    have lu := pu.length_eq
    have lv := pv.length_eq
    rw [List.length_map] at lu lv
    have k08 : Kp [p] H H8 := Kp.trans k05 (Kp.trans k57 k8).wide
    have k010 : Kp [p] H H10 := Kp.trans k05 (Kp.trans k57 (Kp.trans k79 k10)).wide
    have f7W : Fr H W := (Kp.trans k05 k6.wide).free fW
    refine k Z S1 S2 W (n + r : Nat) us vs rs _ (hp5.kp0 k5Z) (Kp.trans k05 k5Z.wide) upd_same ((Kp.trans k10 (Kp.trans kS2 kZ)).at_ _ _ hS1 not_nil) (kZ.at_ _ _ hS2 not_nil) (ld7.kp k7Z (imms_d2 _) not_nil) (k08.free fS1) (k010.free fS2) f7W
      ⟨⟨D, z⟩, ?_, ?_, ⟨srt, rm⟩, fun e => ?_⟩ (by omega) (by omega) (by omega)
    · refine strict_of (.refl _) (List.nodup_append.mp ndUV).1 su
    · refine strict_of (.refl _) (List.nodup_append.mp ndUV).2.1 sv
    · have := g.ne
      rw [e] at lu
      exact this (List.length_eq_zero_iff.mp lu.symm)

/-! ### dicts from worlds to numbers -/
def okN (n : Int) : Prop := -1000000000000000000000000000000000000000000000000000000000000 ≤ n ∧ n ≤ 1000000000000000000000000000000000000000000000000000000000000
def kN (q : Int × Int) : Key × V := (.inl q.1, .int q.2)
theorem valN_none {w : Int} : ∀ {ps : List (Int × Int)}, w ∉ ps.map (·.1) → valV (ps.map kN) (.inl w) = none
  | [], _ => rfl
  | p :: ps, h => by
    rw [List.map_cons, List.mem_cons, not_or] at h
    rw [List.map_cons, valV_neg (fun z => ?_)]
    · exact valN_none h.2
    · have z : (Sum.inl p.1 : Key) = .inl w := z
      injection z with z
      exact h.1 z.symm
theorem merge_kN : ∀ (ps acc : List (Int × Int)), ((acc ++ ps).map (·.1)).Nodup → mergeK (acc.map kN) (ps.map kN) = (acc ++ ps).map kN
  | [], acc, _ => by rw [List.append_nil]; rfl
  | q :: ps, acc, h => by
    have e : (acc ++ q :: ps) = (acc ++ [q]) ++ ps := by rw [List.append_assoc]; rfl
    have n : q.1 ∉ acc.map (·.1) := fun z => by
      rw [List.map_append, List.map_cons] at h
      exact (List.nodup_append.mp h).2.2 q.1 z q.1 List.mem_cons_self rfl
    have ih := merge_kN ps (acc ++ [q]) (by rw [← e]; exact h)
    have p : putK (acc.map kN) (kN q).1 (kN q).2 = (acc ++ [q]).map kN := by
      show putK (acc.map kN) (.inl q.1) (.int q.2) = _
      rw [putK_new _ (valN_none n), List.map_append]
      rfl
    rw [e, ← ih, ← p]
    rfl
theorem prs_refs {K : PySem.W.Frag} {H : Hp} : ∀ {xs : List V} {ps : List (Int × Int)}, PrsAt H xs ps → ∃ ts : List Addr, xs = ts.map V.ref ∧ Paired (fun p kv => SqT K H p [kV kv.1, kv.2]) ts (ps.map kN)
  | [], [], _ => ⟨[], rfl, .nil⟩
  | _ :: _, q :: _, ⟨⟨t, e, h⟩, r⟩ => by
    obtain ⟨ts, rfl, hp⟩ := prs_refs (K := K) r
    subst e
    exact ⟨t :: ts, rfl, .cons (SqT.of h) hp⟩
  | [], _ :: _, h => h.elim
  | _ :: _, [], h => h.elim
def rDictP (K : PySem.W.Frag) : List V → Hp → VK → Prop := fun xs H Q => ∃ (a : Addr) (ps : List Addr) (kvs : List (Key × V)), xs = [.ref a] ∧ SqL K H a (ps.map V.ref) ∧ Paired (fun p kv => SqT K H p [kV kv.1, kv.2]) ps kvs ∧
    ∀ p, H p = none → Q (.ref p) (upd H p (.dK (mergeK [] kvs)))
theorem k_dictP {X : Cx} {K : PySem.W.Frag} (h : X.K = K) (hcalm : X.calm = true) : CallR X (.type "dict") (rDictP K) := h ▸ call_dictP hcalm
theorem i_dictPrs {K : PySem.W.Frag} {H : Hp} {Q : VK} {a : Addr} {xs : List V} {ps : List (Int × Int)} (h : H a = some (.lst xs)) (px : PrsAt H xs ps) (nd : (ps.map (·.1)).Nodup) (q : New H fun p => Q (.ref p) (upd H p (.dK (ps.map kN)))) : rDictP K [.ref a] H Q := by
  obtain ⟨ts, rfl, hp⟩ := prs_refs (K := K) px
  refine ⟨a, ts, ps.map kN, rfl, SqL.of h, hp, fun p hp => ?_⟩
  have e := merge_kN ps [] nd
  rw [List.map_nil] at e
  rw [e]
  exact q p hp
def look (ps : List (Int × Int)) (w : Int) : Int := ((ps.find? fun q => decide (q.1 = w)).map (·.2)).getD 0
theorem look_mem {w : Int} : ∀ {ps : List (Int × Int)}, w ∈ ps.map (·.1) → (w, look ps w) ∈ ps ∧ valV (ps.map kN) (.inl w) = some (.int (look ps w))
  | [], h => nomatch h
  | p :: ps, h => by
    by_cases c : p.1 = w
    · have e : look (p :: ps) w = p.2 := by
        unfold look
        rw [List.find?_cons, decide_eq_true c]
        rfl
      rw [e, List.map_cons, valV_pos (show (kN p).1 = .inl w by rw [← c]; rfl)]
      exact ⟨by rw [← c]; exact List.mem_cons_self, rfl⟩
    · have e : look (p :: ps) w = look ps w := by
        unfold look
        rw [List.find?_cons, decide_eq_false c]
      rw [List.map_cons, List.mem_cons] at h
      obtain ⟨h1, h2⟩ := look_mem (h.resolve_left fun z => c z.symm)
      rw [e, List.map_cons, valV_neg (fun z => ?_)]
      · exact ⟨List.mem_cons_of_mem _ h1, h2⟩
      · have z : (Sum.inl p.1 : Key) = .inl w := z
        injection z with z
        exact c z
theorem look_eq {w n : Int} {ps : List (Int × Int)} (nd : (ps.map (·.1)).Nodup) (h : (w, n) ∈ ps) : look ps w = n := by
  have m : w ∈ ps.map (·.1) := List.mem_map.mpr ⟨_, h, rfl⟩
  obtain ⟨h1, _⟩ := look_mem m
  have inj : ∀ {ps : List (Int × Int)}, (ps.map (·.1)).Nodup → ∀ {w a b : Int}, (w, a) ∈ ps → (w, b) ∈ ps → a = b := by
    intro ps
    induction ps with
    | nil => intro _ w a b h; cases h
    | cons p ps ih =>
      intro nd w a b ha hb
      rw [List.map_cons, List.nodup_cons] at nd
      rcases List.mem_cons.mp ha with e1 | h1 <;> rcases List.mem_cons.mp hb with e2 | h2
      · rw [← e1] at e2
        exact (congrArg Prod.snd e2).symm
      · exact absurd (List.mem_map.mpr ⟨_, h2, by rw [← e1]⟩) nd.1
      · exact absurd (List.mem_map.mpr ⟨_, h1, by rw [← e2]⟩) nd.1
      · exact ih nd.2 h1 h2
  exact inj nd h1 h
theorem k_max1 {X : Cx} {K : PySem.W.Frag} (h : X.K = K) (hc : X.calm = true) : CallR X (.builtin "max") (rMax K) := h ▸ cr_max hc
theorem i_pw9 {H : Hp} {Q : VK} (h : Q (.int 1000000000) H) : rPow (.int 10) (.int 9) H Q := pow_go rfl (by decide) h
theorem i_pw40 {H : Hp} {Q : VK} (h : Q (.int 10000000000000000000000000000000000000000) H) : rPow (.int 10) (.int 40) H Q := pow_go rfl (by decide) h
theorem i_pw50 {H : Hp} {Q : VK} (h : Q (.int 100000000000000000000000000000000000000000000000000) H) : rPow (.int 10) (.int 50) H Q := pow_go rfl (by decide) h
theorem cutV_upto {xs : List V} {n : Nat} : cutV xs none (some (n : Int)) = xs.take n := by
  unfold cutV
  rw [HT.sIx_none, HT.sIx_nat, List.drop_zero, Nat.sub_zero, List.take_eq_take_iff]
  omega
theorem cutV_on {xs : List V} {k : Nat} : cutV xs (some (k : Int)) none = xs.drop k := by
  unfold cutV
  rw [HT.sIx_none, HT.sIx_nat]
  by_cases c : k ≤ xs.length
  · rw [Nat.min_eq_left c]
    exact List.take_of_length_le (by rw [List.length_drop]; omega)
  · rw [Nat.min_eq_right (by omega), List.drop_length, List.drop_of_length_le (by omega)]
    simp
theorem cutV_but {xs : List V} {x : V} : cutV (xs ++ [x]) none (some (-1)) = xs := by
  unfold cutV
  rw [HT.sIx_none]
  have e : HT.sIx (xs ++ [x]).length (xs ++ [x]).length (some (-1)) = xs.length := by
    show (if (-1 : Int) < 0 then ((-1 : Int) + ((xs ++ [x]).length : Int)).toNat else min (-1 : Int).toNat (xs ++ [x]).length) = xs.length
    rw [if_pos (by decide), List.length_append, List.length_singleton]
    omega
  rw [e, List.drop_zero, Nat.sub_zero, List.take_left']
  rfl
theorem prs_split {H : Hp} {q : Int × Int} : ∀ {xs : List V} {ps : List (Int × Int)}, PrsAt H xs (ps ++ [q]) → ∃ ys t, xs = ys ++ [.ref t] ∧ PrsAt H ys ps ∧ H t = some (.tup [.int q.1, .int q.2])
  | [], [], h => h.elim
  | [], _ :: _, h => h.elim
  | x :: xs, [], h => by
    obtain ⟨⟨t, e, h1⟩, h2⟩ := h
    cases xs with
    | nil => exact ⟨[], t, by rw [e]; rfl, trivial, h1⟩
    | cons y ys => exact h2.elim
  | x :: xs, p :: ps, ⟨h1, h2⟩ => by
    obtain ⟨ys, t, e, a, b⟩ := prs_split h2
    exact ⟨x :: ys, t, by rw [e]; rfl, ⟨h1, a⟩, b⟩
theorem map_one {l : List V} {ns : List Int} (h : l = ns.map V.int) : ∀ v ∈ l, ∃ n ∈ ns, v = .int n := fun v hv => by
  rw [h] at hv
  obtain ⟨n, hn, e⟩ := List.mem_map.mp hv
  exact ⟨n, hn, e.symm⟩
theorem pair_mem {H : Hp} {U : Addr} {n m : Int} (h : H U = some (.tup [.int n, .int m])) : H U = some (.tup [.int (n, m).1, .int (n, m).2]) := h
def sp_numbers (K : PySem.W.Frag) : Sp := fun vs H Q _ => ∃ (p l : Addr) (ws : List Int), vs = [.ref p, .ref l] ∧ Pot3 H p ∧ H l = some (.lst (ws.map V.int)) ∧ l ≠ p ∧ ws.Nodup ∧ ws ≠ [] ∧ ws.length ≤ 36 ∧
  ∀ d (prs : List (Int × Int)) H', Fr H d → Pot3 H' p → Kp [p] H H' → H' d = some (.dK (prs.map kN)) → prs.map (·.1) = ws → (∀ q ∈ prs, okN q.2) → Q (.ref d) H'
theorem sc_law_numbers : FnScope ["_law_pot_here", "_law_living", "_law_left", "_law_found", "_law_most", "_law_some", "_law_k", "_law_world", "_law_number"] ["_law_pot_here", "_law_living"] (defScope s_law_numbers) :=
  ⟨rfl, rfl, rfl, by decide +kernel, rfl, by decide +kernel, by decide +kernel⟩
theorem ok_law_numbers {P : Program} {w : World} {K : PySem.W.Frag} {mg : Str → Option Value} {base : Heap} (T : Txt K mg) :
    FnG P w K mg base 3 T.a_law_numbers T.d_law_numbers ["_law_pot_here", "_law_living"] (sp_numbers K) := by
  refine okD T.F_law_numbers sc_law_numbers (fun vs H Q E h => ?_) (fun cdv A outer s H vs Q E hr h => ?_)
  · first
      | (obtain ⟨_, rfl, _⟩ := h; rfl)
      | (obtain ⟨_, _, rfl, _⟩ := h; rfl)
      | (obtain ⟨_, _, _, rfl, _⟩ := h; rfl)
      | (obtain ⟨_, _, _, _, rfl, _⟩ := h; rfl)
      | (obtain ⟨_, _, _, _, _, rfl, _⟩ := h; rfl)
      | (obtain ⟨_, _, _, _, _, _, rfl, _⟩ := h; rfl)
      | (obtain ⟨_, _, _, _, _, _, _, rfl, _⟩ := h; rfl)
      | (obtain ⟨_, _, _, _, _, _, _, _, rfl, _⟩ := h; rfl)
      | (obtain ⟨_, _, _, _, _, _, _, _, _, rfl, _⟩ := h; rfl)
      | (obtain ⟨_, _, _, _, _, _, _, _, _, _, rfl, _⟩ := h; rfl)
      | (obtain ⟨_, _, _, _, _, _, _, _, _, _, _, rfl, _⟩ := h; rfl)
      | (obtain ⟨_, _, _, _, _, _, _, _, _, _, _, _, rfl, _⟩ := h; rfl)
      | (obtain ⟨_, _, _, _, _, _, _, _, _, _, _, _, _, rfl, _⟩ := h; rfl)
      | (obtain ⟨_, _, _, _, _, _, _, _, _, _, _, _, _, _, rfl, _⟩ := h; rfl)
      | (obtain ⟨_, _, _, _, _, _, _, _, _, _, _, _, _, _, _, rfl, _⟩ := h; rfl)
      | (obtain ⟨_, _, _, _, _, _, _, _, _, _, _, _, _, _, _, _, rfl, _⟩ := h; rfl)
      | (obtain ⟨_, _, _, _, _, _, _, _, _, _, _, _, _, _, _, _, _, rfl, _⟩ := h; rfl)
      | (obtain ⟨_, _, _, _, _, _, _, _, _, _, _, _, _, _, _, _, _, _, rfl, _⟩ := h; rfl)
      | (obtain ⟨_, _, _, _, _, _, _, _, _, _, _, _, _, _, _, _, _, _, _, rfl, _⟩ := h; rfl)
  · obtain ⟨p, l, ws, rfl, hp, hl0, nlp, nd, ne, lw, k⟩ := h
    have hl : SqL K H l (ws.map V.int) := SqL.of hl0
    have wpos : 0 < ws.length := List.length_pos_iff.mpr ne
    have cl_Ties := T.cl_Ties
    have na_Ties_near := T.na_Ties_near
    have na_Ties_own_ever := T.na_Ties_own_ever
    have na_Ties_own_living := T.na_Ties_own_living
    refine ⟨_, (pss_cons (ps_if (pt_cmpR (k_eq (K := K) rfl hr.r.units) (d1 (ok_law_take T) (hr.mono (by decide)) (by rfl) T.m_law_take T.F_law_take.kp T.b_law_take passL (pa_cons (pv 0) (pa_cons pe_int pa_nil))) pe_int (nomark _)) (pss_cons (ps_set (i := 2) sc_law_numbers.nd rfl (Or.inr rfl) (pe_op (k_add (K := K) rfl) (pe_lc (own := [("_law_k", 6)]) (g := (gName 6)) (tt := tYes) rfl sc_law_numbers.nd (pi_range1 (by rfl) T.n_range (pa_cons pe_int pa_nil)) (blkOk_by (own := [("_law_k", 6)]) (N := ["_law_pot_here", "_law_living", "_law_left", "_law_found", "_law_most", "_law_some", "_law_k", "_law_world", "_law_number"]) (sc := defScope s_law_numbers) (by decide +kernel)) (fun _ _ _ _ _ => (pg_name (i := 6) sc_law_numbers.nd rfl (Or.inl rfl))) (fun _ _ _ _ _ => pts_nil) (fun _ _ _ _ _ => (pe_op op_sub (pe_op o_mul pe_int (pv 6)) pe_int))) (pe_lc (own := [("_law_k", 6)]) (g := (gName 6)) (tt := tYes) rfl sc_law_numbers.nd (pi_range1 (by rfl) T.n_range (pa_cons pe_int pa_nil)) (blkOk_by (own := [("_law_k", 6)]) (N := ["_law_pot_here", "_law_living", "_law_left", "_law_found", "_law_most", "_law_some", "_law_k", "_law_world", "_law_number"]) (sc := defScope s_law_numbers) (by decide +kernel)) (fun _ _ _ _ _ => (pg_name (i := 6) sc_law_numbers.nd rfl (Or.inl rfl))) (fun _ _ _ _ _ => pts_nil) (fun _ _ _ _ _ => (pe_op (k_add (K := K) rfl) (pe_op o_pow pe_int pe_int) (pe_op o_mul (pv 6) (pv 6)))))))
      (pss_cons (ps_set (i := 2) sc_law_numbers.nd rfl (Or.inr rfl) (pe_slice (k_sl (K := K) rfl) (pv 2) po_none (po_some (pe_callB (c_max2 rfl) (by rfl) T.n_max (by decide +kernel) (pa_cons (pe_callB (k_len (K := K) rfl) (by rfl) T.n_len (by decide +kernel) (pa_cons (pv 1) pa_nil)) (pa_cons (pe_op (k_add (K := K) rfl) pe_int (d1 (ok_law_take T) (hr.mono (by decide)) (by rfl) T.m_law_take T.F_law_take.kp T.b_law_take passL (pa_cons (pv 0) (pa_cons pe_int pa_nil)))) pa_nil))))))
      (pss_cons (ps_setLc (i := 3) (own := [("_law_world", 7)]) (g := (gName 7)) (tt := tYes) rfl sc_law_numbers.nd rfl rfl (sw_true rfl rfl rfl (by decide +kernel)) (k_plist (K := K) rfl (pv 1)) (blkOk_by (own := [("_law_world", 7)]) (N := ["_law_pot_here", "_law_living", "_law_left", "_law_found", "_law_most", "_law_some", "_law_k", "_law_world", "_law_number"]) (sc := defScope s_law_numbers) (by decide +kernel)) (fun _ _ _ _ _ => (pg_name (i := 7) sc_law_numbers.nd rfl (Or.inl rfl))) (fun _ _ _ _ _ => pts_nil) (fun _ _ _ _ _ => (pe_tup (pa_cons (pv 7) (pa_cons (k_bm (K := K) rfl PySem.F.plainAttrs_list PySem.F.slot_list_pop PySem.F.type_list_pop mt_popAt (pv 2) (pa_cons (d1 (ok_law_take T) (hr.mono (by decide)) (by rfl) T.m_law_take T.F_law_take.kp T.b_law_take passL (pa_cons (pv 0) (pa_cons (pe_callB (k_len (K := K) rfl) (by rfl) T.n_len (by decide +kernel) (pa_cons (pv 2) pa_nil)) pa_nil))) pa_nil)) pa_nil)))))
      (pss_cons (ps_set (i := 4) sc_law_numbers.nd rfl (Or.inl rfl) (pe_callB (k_max1 (K := K) rfl rfl) (by rfl) T.n_max (by decide +kernel) (pa_cons (pe_op (k_add (K := K) rfl) (pe_lc (own := [("_law_world", 7), ("_law_number", 8)]) (g := (gTup K 2 (gCons (gName 7) (gCons (gName 8) gNil)))) (tt := tYes) rfl sc_law_numbers.nd (k_plist (K := K) rfl (pv 3)) (blkOk_by (own := [("_law_world", 7), ("_law_number", 8)]) (N := ["_law_pot_here", "_law_living", "_law_left", "_law_found", "_law_most", "_law_some", "_law_k", "_law_world", "_law_number"]) (sc := defScope s_law_numbers) (by decide +kernel)) (fun _ _ _ _ _ => (k_gtup (K := K) 2 rfl rfl (pgs_cons (pg_name (i := 7) sc_law_numbers.nd rfl (Or.inl rfl)) (pgs_cons (pg_name (i := 8) sc_law_numbers.nd rfl (Or.inl rfl)) pgs_nil)))) (fun _ _ _ _ _ => pts_nil) (fun _ _ _ _ _ => (pv 8))) (pe_lst (pa_cons pe_int pa_nil))) pa_nil)))
      (pss_cons (ps_set (i := 3) sc_law_numbers.nd rfl (Or.inl rfl) (pe_op (k_add (K := K) rfl) (pe_slice (k_sl (K := K) rfl) (pv 3) po_none (po_some (pe_un un_neg pe_int))) (pe_lst (pa_cons (pe_tup (pa_cons (pe_ix (k_ix (K := K) rfl) (pe_ix (k_ix (K := K) rfl) (pv 3) (pe_un un_neg pe_int) (fun _ _ => rfl)) pe_int (fun _ _ => rfl)) (pa_cons (pe_ix (k_ix (K := K) rfl) (pe_lst (pa_cons (pe_ix (k_ix (K := K) rfl) (pe_ix (k_ix (K := K) rfl) (pv 3) (pe_un un_neg pe_int) (fun _ _ => rfl)) pe_int (fun _ _ => rfl)) (pa_cons (pv 4) pa_nil))) (d1 (ok_law_take T) (hr.mono (by decide)) (by rfl) T.m_law_take T.F_law_take.kp T.b_law_take passL (pa_cons (pv 0) (pa_cons pe_int pa_nil))) (fun _ _ => rfl)) pa_nil))) pa_nil))))
      (pss_one (ps_ret (pe_callTy (k_dictP (K := K) rfl rfl) (by rfl) T.n_dict (by decide +kernel) (pa_cons (pv 3) pa_nil))))))))) pss_nil)
      (pss_cons (ps_set (i := 5) sc_law_numbers.nd rfl (Or.inr rfl) (pe_lst (pa_cons pe_int (pa_cons pe_int (pa_cons (pe_op op_sub (d1 (ok_law_take T) (hr.mono (by decide)) (by rfl) T.m_law_take T.F_law_take.kp T.b_law_take passL (pa_cons (pv 0) (pa_cons pe_int pa_nil))) pe_int) (pa_cons (pe_op (k_add (K := K) rfl) (pe_op o_pow pe_int pe_int) (d1 (ok_law_take T) (hr.mono (by decide)) (by rfl) T.m_law_take T.F_law_take.kp T.b_law_take passL (pa_cons (pv 0) (pa_cons (pe_op o_pow pe_int pe_int) pa_nil)))) (pa_cons (pe_op op_sub (pe_un un_neg pe_int) (d1 (ok_law_take T) (hr.mono (by decide)) (by rfl) T.m_law_take T.F_law_take.kp T.b_law_take passL (pa_cons (pv 0) (pa_cons (pe_op o_pow pe_int pe_int) pa_nil)))) pa_nil)))))))
      (pss_cons (ps_set (i := 5) sc_law_numbers.nd rfl (Or.inr rfl) (pe_op (k_add (K := K) rfl) (pe_slice (k_sl (K := K) rfl) (pv 5) (po_some (d1 (ok_law_take T) (hr.mono (by decide)) (by rfl) T.m_law_take T.F_law_take.kp T.b_law_take passL (pa_cons (pv 0) (pa_cons pe_int pa_nil)))) po_none) (pe_slice (k_sl (K := K) rfl) (pv 5) po_none (po_some (d1 (ok_law_take T) (hr.mono (by decide)) (by rfl) T.m_law_take T.F_law_take.kp T.b_law_take passL (pa_cons (pv 0) (pa_cons pe_int pa_nil)))))))
      (pss_one (ps_ret (pe_callTy (k_dictP (K := K) rfl rfl) (by rfl) T.n_dict (by decide +kernel) (pa_cons (pe_lc (own := [("_law_world", 7)]) (g := (gName 7)) (tt := tYes) rfl sc_law_numbers.nd (k_plist (K := K) rfl (pv 1)) (blkOk_by (own := [("_law_world", 7)]) (N := ["_law_pot_here", "_law_living", "_law_left", "_law_found", "_law_most", "_law_some", "_law_k", "_law_world", "_law_number"]) (sc := defScope s_law_numbers) (by decide +kernel)) (fun _ _ _ _ _ => (pg_name (i := 7) sc_law_numbers.nd rfl (Or.inl rfl))) (fun _ _ _ _ _ => pts_nil) (fun _ _ _ _ _ => (pe_tup (pa_cons (pv 7) (pa_cons (d1 (ok_law_pick T) (hr.mono (by decide)) (by rfl) T.m_law_pick T.F_law_pick.kp T.b_law_pick passL (pa_cons (pv 0) (pa_cons (pv 5) pa_nil))) pa_nil))))) pa_nil))))))), ?_⟩
    dsimp only [cxOf, st_1, st_2, st_3, st_4, st_5, st_6, List.length_cons, List.length_nil, List.replicate_succ, List.replicate_zero, Nat.reduceAdd, Nat.reduceSub]
    walk_at "gs"
    refine use_take hp (by decide) (by decide) (fun r H1 r0 r1 hp1 k1 => ?_)
    have hl1 := k1.seqL (not_one nlp) hl
    walk_at "gs"
    refine i_dec (fun c => ?_) (fun c => ?_)
    · walk_at "gs"
      refine i_reps (by decide) (by decide) (fun R i H' => Kp [] H1 H' ∧ ∃ ns : List Int, H' R = some (.lst (ns.map V.int)) ∧ ns.length = i ∧ ∀ n ∈ ns, okN n) ?_ ?_ ?_
      · intro R fR
        exact ⟨Kp.new fR, [], upd_same, rfl, fun n hn => (nomatch hn)⟩
      · rintro R i H' fR hi ⟨kk, ns, hR, ln, ok⟩
        walk_at "gs"
        refine ⟨_, hR, small_sz (by rw [List.length_map]; omega), Kp.upd kk fR, ns ++ [3 * (i : Int) - 9], by rw [snoc_int']; exact upd_same, by rw [List.length_append, ln]; rfl, fun n hn => ?_⟩
        rcases List.mem_append.mp hn with h | h
        · exact ok n h
        · rw [List.mem_singleton.mp h]
          exact ⟨by omega, by omega⟩
      rintro A H2 fA ⟨k2, na, hA, la, oka⟩
      walk_at "gs"
      refine i_reps (by decide) (by decide) (fun R i H' => Kp [] H2 H' ∧ ∃ ns : List Int, H' R = some (.lst (ns.map V.int)) ∧ ns.length = i ∧ ∀ n ∈ ns, okN n) ?_ ?_ ?_
      · intro R fR
        exact ⟨Kp.new fR, [], upd_same, rfl, fun n hn => (nomatch hn)⟩
      · rintro R i H' fR hi ⟨kk, ns, hR, ln, ok⟩
        walk_at "gs"
        refine i_pw50 ?_
        walk_at "gs"
        refine ⟨_, hR, small_sz (by rw [List.length_map]; omega), Kp.upd kk fR, ns ++ [100000000000000000000000000000000000000000000000000 + (i : Int) * i], by rw [snoc_int']; exact upd_same, by rw [List.length_append, ln]; rfl, fun n hn => ?_⟩
        rcases List.mem_append.mp hn with h | h
        · exact ok n h
        · rw [List.mem_singleton.mp h]
          have e1 : i * i ≤ 30 * 30 := Nat.mul_le_mul (by omega) (by omega)
          have e2 : (i : Int) * i = ((i * i : Nat) : Int) := by rw [Int.natCast_mul]
          rw [e2]
          exact ⟨by omega, by omega⟩
      rintro B H3 fB ⟨k3, nb, hB, lb, okb⟩
      have hA3 := k3.at_ _ _ hA not_nil
      walk_at "gs"
      refine i_new fun C fC => ?_
      rw [← List.map_append]
      have kC := Kp.new (ws := []) (o := HO.lst ((na ++ nb).map V.int)) fC
      have hC := fresh_at (o := HO.lst ((na ++ nb).map V.int)) fC
      obtain ⟨H4, e4⟩ : ∃ H4, H4 = upd H3 C (.lst ((na ++ nb).map V.int)) := ⟨_, rfl⟩
      rw [← e4] at kC hC ⊢
      have k14 := Kp.trans k2 (Kp.trans k3 kC)
      have hp4 := hp1.kp0 k14
      have hl4 := k14.seqL not_nil hl1
      have npC : C ≠ p := Ne.symm ((hp1.kp0 (Kp.trans k2 k3)).ne fC)
      walk_at "gs"
      refine use_take hp4 (by decide) (by decide) (fun r2 H5 r20 r21 hp5 k5 => ?_)
      obtain ⟨r2, rfl⟩ := Int.eq_ofNat_of_zero_le r20
      have hC5 := k5.at_ _ _ hC (not_one npC)
      have hsC5 : SqL K H5 C ((na ++ nb).map V.int) := SqL.of hC5
      have hl5 := k5.seqL (not_one nlp) hl4
      walk_at "gs"
      refine i_new fun Lf fLf => ?_
      rw [List.length_map, show max ((ws.length : Int)) (1 + (r2 : Nat)) = ((max ws.length (1 + r2) : Nat) : Int) by omega, cutV_upto, ← List.map_take]
      obtain ⟨lft, elft⟩ : ∃ lft, lft = (na ++ nb).take (max ws.length (1 + r2)) := ⟨_, rfl⟩
      have llft : ws.length ≤ lft.length ∧ lft.length ≤ 36 := by
        rw [elft, List.length_take, List.length_append]
        omega
      have okl : ∀ n ∈ lft, okN n := fun n hn => by
        rw [elft] at hn
        rcases List.mem_append.mp (List.mem_of_mem_take hn) with h | h
        · exact oka n h
        · exact okb n h
      rw [← elft]
      have kLf := Kp.new (ws := []) (o := HO.lst (lft.map V.int)) fLf
      have hLf := fresh_at (o := HO.lst (lft.map V.int)) fLf
      obtain ⟨H6, e6⟩ : ∃ H6, H6 = upd H5 Lf (.lst (lft.map V.int)) := ⟨_, rfl⟩
      rw [← e6] at kLf hLf ⊢
      have hp6 := hp5.kp0 kLf
      have npLf : Lf ≠ p := Ne.symm (hp5.ne fLf)
      have hl6 := kLf.seqL not_nil hl5
      have nlLf : l ≠ Lf := fr_ne (k5.at_ _ _ (k14.at_ _ _ (k1.at_ _ _ hl0 (not_one nlp)) not_nil) (not_one nlp)) fLf
      have k06 : Kp [p] H H6 := Kp.trans k1 (Kp.trans k14.wide (Kp.trans k5 kLf.wide))
      walk_at "gs"
      refine i_elts hl6 (fun R i H' => Pot3 H' p ∧ Kp [p, Lf] H6 H' ∧ ∃ (ys : List V) (prs : List (Int × Int)) (lf : List Int), H' R = some (.lst ys) ∧ PrsAt H' ys prs ∧ H' Lf = some (.lst (lf.map V.int)) ∧ lf.length + i = lft.length ∧ (∀ n ∈ lf, okN n) ∧ prs.map (·.1) = ws.take i ∧ ∀ q ∈ prs, okN q.2) ?_ ?_ ?_ ?_
      · intro R fR
        exact ⟨hp6.kp0 (Kp.new fR), Kp.new fR, [], [], lft, upd_same, trivial, upd_nn (fr_ne hLf fR) hLf, rfl, okl, rfl, fun q hq => (nomatch hq)⟩
      · rintro R i H' fR _ ⟨_, kk, _⟩
        exact kk.seqL (not_two nlp nlLf) hl6
      · rintro R i y H' fR hy ⟨hp', kk, ys, prs, lf, hR, py, hLf', ll, okf, em, okp⟩
        obtain ⟨w, hw, e⟩ := map_get hy
        subst e
        have hiw := (List.getElem?_eq_some_iff.mp hw).1
        have nRp : R ≠ p := Ne.symm (hp6.ne fR)
        have nRL : R ≠ Lf := Ne.symm (fr_ne hLf fR)
        have hsLf : SqL K H' Lf (lf.map V.int) := SqL.of hLf'
        walk_at "gs"
        refine use_take hp' (by rw [List.length_map]; omega) (by rw [List.length_map]; omega) (fun j H7 j0 j1 hp7 k7 => ?_)
        rw [List.length_map] at j1
        obtain ⟨j, rfl⟩ := Int.eq_ofNat_of_zero_le j0
        have hLf7 := k7.at_ _ _ hLf' (not_one npLf)
        have hR7 := k7.at_ _ _ hR (not_one nRp)
        have hj : j < lf.length := by omega
        walk_at "gs"
        refine i_popAt hLf7 hj (by omega) ?_
        walk_at "gs"
        refine i_new fun U fU => ?_
        have kM := Kp.mut (ws := [p, Lf]) (o := HO.lst ((lf.eraseIdx j).map V.int)) hLf7 (fun z => z) (by simp)
        have kU := Kp.new (ws := []) (o := HO.tup [.int w, .int lf[j]]) fU
        have hU := fresh_at (o := HO.tup [.int w, .int lf[j]]) fU
        have hR8 := kU.at_ _ _ (upd_nn nRL hR7 (o := HO.lst ((lf.eraseIdx j).map V.int))) not_nil
        have hL8 := kU.at_ _ _ (show (upd H7 Lf (.lst ((lf.eraseIdx j).map V.int))) Lf = some (.lst ((lf.eraseIdx j).map V.int)) from upd_same) not_nil
        have k78 := Kp.trans kM kU.wide
        have kk7 : Kp [p, Lf] H6 H7 := Kp.trans kk (k7.mono fun b hb => by rw [List.mem_singleton.mp hb]; simp)
        have hp8 := (hp7.kp (Kp.mut (ws := [Lf]) (o := HO.lst ((lf.eraseIdx j).map V.int)) hLf7 (fun z => z) (List.mem_singleton.mpr rfl)) (not_one (Ne.symm npLf))).kp0 kU
        obtain ⟨H8, e8⟩ : ∃ H8, H8 = upd (upd H7 Lf (.lst ((lf.eraseIdx j).map V.int))) U (.tup [.int w, .int lf[j]]) := ⟨_, rfl⟩
        rw [← e8] at hU hR8 hL8 k78 hp8 kU ⊢
        have ly := py.len
        have lp := congrArg List.length em
        rw [List.length_map, List.length_take] at lp
        walk_at "gs"
        have kR := Kp.mut (ws := [R]) (o := HO.lst (ys ++ [.ref U])) hR8 (fun z => z) (List.mem_singleton.mpr rfl)
        refine ⟨_, hR8, small_sz (by omega), hp8.kp kR (not_one (Ne.symm nRp)), Kp.upd (Kp.trans kk7 k78) fR, ys ++ [.ref U], prs ++ [(w, lf[j])], lf.eraseIdx j, upd_same, ?_, upd_nn (Ne.symm nRL) hL8, ?_, fun n hn => okf n ((erase_perm lf j hj).mem_iff.mp (List.mem_cons_of_mem _ hn)), ?_, fun q hq => ?_⟩
        · exact PrsAt.snoc (kR.fix _ _ hU trivial) (((py.kp k7).kp k78).kp kR)
        · rw [List.length_eraseIdx, if_pos hj]
          omega
        · rw [List.map_append, em, List.take_add_one, hw]
          rfl
        · rcases List.mem_append.mp hq with h | h
          · exact okp q h
          · rw [List.mem_singleton.mp h]
            exact okf _ (List.getElem_mem hj)
      rintro Fd H7 fFd ⟨hp7, k7, ys, prs, lf, hFd, py, hLf7, ll, okf, em, okp⟩
      rw [List.length_map, List.take_length] at em
      have ly := py.len
      have lp := congrArg List.length em
      rw [List.length_map] at lp
      have k07 : Kp [p] H H7 := (Kp.trans (k06.mono (us := [p, Lf]) fun b hb => by rw [List.mem_singleton.mp hb]; simp) k7).dropAll fun b hb => by
        simp only [List.mem_cons, List.not_mem_nil, or_false] at hb
        rcases hb with rfl | rfl
        · exact .inl List.mem_cons_self
        · exact .inr ((Kp.trans k1 (Kp.trans k14.wide k5)).free fLf)
      have npF : Fd ≠ p := Ne.symm (hp6.ne fFd)
      walk_at "gs"
      refine i_elts (SqL.of hFd) (fun R i H' => Kp [] H7 H' ∧ ∃ ns : List Int, H' R = some (.lst (ns.map V.int)) ∧ ns.length = i ∧ ∀ n ∈ ns, okN n) ?_ ?_ ?_ ?_
      · intro R fR
        exact ⟨Kp.new fR, [], upd_same, rfl, fun n hn => (nomatch hn)⟩
      · rintro R i H' fR _ ⟨kk, _⟩
        exact kk.seqL not_nil (SqL.of hFd)
      · rintro R i y H' fR hy ⟨kk, ns, hR, ln, ok⟩
        obtain ⟨t, q, hq, rfl, ht⟩ := prs_get (py.kp kk) hy
        have hst : SqT K H' t [.int q.1, .int q.2] := SqT.of ht
        have hiy := (List.getElem?_eq_some_iff.mp hy).1
        walk_at "gs"
        refine ⟨_, hR, small_sz (by rw [List.length_map]; omega), Kp.upd kk fR, ns ++ [q.2], by rw [snoc_int']; exact upd_same, by rw [List.length_append, ln]; rfl, fun n hn => ?_⟩
        rcases List.mem_append.mp hn with h | h
        · exact ok n h
        · rw [List.mem_singleton.mp h]
          exact okp q (List.mem_of_getElem? hq)
      rintro M1 H8 fM1 ⟨k8, nm, hM1, lm, okm⟩
      walk_at "gs"
      refine i_new fun Z0 fZ0 => ?_
      have kZ0 := Kp.new (ws := []) (o := HO.lst [.int 0]) fZ0
      have hM18 := kZ0.at_ _ _ hM1 not_nil
      walk_at "gs"
      refine i_new fun Z1 fZ1 => ?_
      have e1 : nm.map V.int ++ [V.int 0] = (nm ++ [0]).map V.int := snoc_int'
      rw [e1]
      have kZ1 := Kp.new (ws := []) (o := HO.lst ((nm ++ [0]).map V.int)) fZ1
      have hZ1 := fresh_at (o := HO.lst ((nm ++ [0]).map V.int)) fZ1
      obtain ⟨H9, e9⟩ : ∃ H9, H9 = upd (upd H8 Z0 (.lst [.int 0])) Z1 (.lst ((nm ++ [0]).map V.int)) := ⟨_, rfl⟩
      rw [← e9] at kZ1 hZ1 ⊢
      have k79 := Kp.trans k8 (Kp.trans kZ0 kZ1)
      walk_at "gs"
      refine ⟨Z1, nm ++ [0], rfl, SqL.of hZ1, by rw [List.length_append, List.length_singleton]; omega, fun mx hmx _ => ?_⟩
      have okx : okN mx := by
        rcases List.mem_append.mp hmx with h | h
        · exact okm mx h
        · rw [List.mem_singleton.mp h]
          exact ⟨by decide, by decide⟩
      obtain ⟨prs0, ql, eprs⟩ : ∃ prs0 ql, prs = prs0 ++ [ql] := ⟨prs.dropLast, prs.getLast (fun e => by rw [e] at lp; simp at lp; omega), (List.dropLast_concat_getLast _).symm⟩
      have py9 := py.kp k79
      rw [eprs] at py9
      obtain ⟨ys0, u, eys, py0, hu9⟩ := prs_split py9
      have hFd9 := k79.at_ _ _ hFd not_nil
      rw [eys] at hFd9
      have hsu9 : SqT K H9 u [.int ql.1, .int ql.2] := SqT.of hu9
      have hsF9 : SqL K H9 Fd (ys0 ++ [.ref u]) := SqL.of hFd9
      have hp9 := hp7.kp0 k79
      walk_at "gs"
      refine i_new fun Y1 fY1 => ?_
      rw [cutV_but]
      have kY1 := Kp.new (ws := []) (o := HO.lst ys0) fY1
      have hY1 := fresh_at (o := HO.lst ys0) fY1
      have hFd10 := kY1.at_ _ _ hFd9 not_nil
      have hu10 := kY1.at_ _ _ hu9 not_nil
      obtain ⟨H10, e10⟩ : ∃ H10, H10 = upd H9 Y1 (.lst ys0) := ⟨_, rfl⟩
      rw [← e10] at kY1 hY1 hFd10 hu10 ⊢
      have hsu10 : SqT K H10 u [.int ql.1, .int ql.2] := SqT.of hu10
      have hsF10 : SqL K H10 Fd (ys0 ++ [.ref u]) := SqL.of hFd10
      walk_at "gs"
      refine i_new fun W2 fW2 => ?_
      have kW2 := Kp.new (ws := []) (o := HO.lst [.int ql.2, .int mx]) fW2
      have hW2 := fresh_at (o := HO.lst [.int ql.2, .int mx]) fW2
      have npW2 : W2 ≠ p := Ne.symm ((hp9.kp0 kY1).ne fW2)
      have hp11 := (hp9.kp0 kY1).kp0 kW2
      walk_at "gs"
      refine use_take hp11 (by decide) (by decide) (fun r3 H12 r30 r31 hp12 k12 => ?_)
      obtain ⟨v, hv, okv⟩ : ∃ v, atI [V.int ql.2, V.int mx] r3 = some (.int v) ∧ okN v := by
        have okq := okp ql (by rw [eprs]; exact List.mem_append.mpr (.inr (List.mem_singleton.mpr rfl)))
        rcases (show r3 = 0 ∨ r3 = 1 by omega) with rfl | rfl
        · exact ⟨_, rfl, okq⟩
        · exact ⟨_, rfl, okx⟩
      have hW12 := k12.at_ _ _ hW2 (not_one npW2)
      have hsW12 : SqL K H12 W2 [.int ql.2, .int mx] := SqL.of hW12
      have npY1 : Y1 ≠ p := Ne.symm (hp9.ne fY1)
      have hY12 := k12.at_ _ _ (kW2.at_ _ _ hY1 not_nil) (not_one npY1)
      walk_at "gs"
      refine i_new fun U2 fU2 => ?_
      have kU2 := Kp.new (ws := []) (o := HO.tup [.int ql.1, .int v]) fU2
      have hU2 := fresh_at (o := HO.tup [.int ql.1, .int v]) fU2
      walk_at "gs"
      refine i_new fun L2 fL2 => ?_
      have kL2 := Kp.new (ws := []) (o := HO.lst [.ref U2]) fL2
      have hY13 := (Kp.trans kU2 kL2).at_ _ _ hY12 not_nil
      have lys := py0.len
      have lp0 := congrArg List.length eprs
      rw [List.length_append] at lp0
      walk_at "gs"
      refine i_new fun S1 fS1 => ?_
      have kS1 := Kp.new (ws := []) (o := HO.lst (ys0 ++ [.ref U2])) fS1
      have hS1 := fresh_at (o := HO.lst (ys0 ++ [.ref U2])) fS1
      have k12e := Kp.trans kU2 (Kp.trans kL2 kS1)
      have kAll : Kp [p] H _ := Kp.trans k07 (Kp.trans (Kp.trans k79 (Kp.trans kY1 kW2)).wide (Kp.trans k12 k12e.wide))
      have hU2' := (Kp.trans kL2 kS1).fix _ _ hU2 trivial
      have pyE := PrsAt.snoc (q := (ql.1, v)) hU2' (((((py0.kp kY1).kp kW2).kp k12).kp k12e))
      have em2 : (prs0 ++ [(ql.1, v)]).map (·.1) = ws := by
        rw [← em, eprs, List.map_append, List.map_append]
        rfl
      walk_at "gs"
      refine i_dictPrs hS1 pyE (by rw [em2]; exact nd) (i_new fun d fd => ?_)
      have kd := Kp.new (ws := []) (o := HO.dK ((prs0 ++ [(ql.1, v)]).map kN)) fd
      refine k d _ _ (kAll.free fd) ((hp12.kp0 k12e).kp0 kd) (Kp.trans kAll kd.wide) upd_same em2 fun q hq => ?_
      rcases List.mem_append.mp hq with h | h
      · exact okp q (by rw [eprs]; exact List.mem_append.mpr (.inl h))
      · rw [List.mem_singleton.mp h]
        exact okv
    · walk_at "gs"
      refine use_take hp1 (by decide) (by decide) (fun a H2 a0 a1 hp2 k2 => ?_)
      walk_at "gs"
      refine i_pw50 ?_
      walk_at "gs"
      refine i_pw9 ?_
      walk_at "gs"
      refine use_take hp2 (by decide) (by decide) (fun b H3 b0 b1 hp3 k3 => ?_)
      walk_at "gs"
      refine i_pw40 ?_
      walk_at "gs"
      refine use_take hp3 (by decide) (by decide) (fun c H4 c0 c1 hp4 k4 => ?_)
      walk_at "gs"
      refine i_new fun S fS => ?_
      obtain ⟨ns, ens⟩ : ∃ ns : List Int, ns = [0, 1, a - 4, 100000000000000000000000000000000000000000000000000 + b, -1 - c] := ⟨_, rfl⟩
      have ev : [V.int 0, V.int 1, V.int (a - 4), V.int (100000000000000000000000000000000000000000000000000 + b), V.int (-1 - c)] = ns.map V.int := by rw [ens]; rfl
      have okn : ∀ n ∈ ns, okN n := fun n hn => by
        rw [ens] at hn
        simp only [List.mem_cons, List.not_mem_nil, or_false] at hn
        unfold okN
        omega
      have lns : ns.length = 5 := by rw [ens]; rfl
      rw [ev]
      have kS := Kp.new (ws := []) (o := HO.lst (ns.map V.int)) fS
      have hS := fresh_at (o := HO.lst (ns.map V.int)) fS
      obtain ⟨H5, e5⟩ : ∃ H5, H5 = upd H4 S (.lst (ns.map V.int)) := ⟨_, rfl⟩
      rw [← e5] at kS hS ⊢
      have hp5 := hp4.kp0 kS
      have npS : S ≠ p := Ne.symm (hp4.ne fS)
      have k05 : Kp [p] H H5 := Kp.trans k1 (Kp.trans k2 (Kp.trans k3 (Kp.trans k4 kS.wide)))
      walk_at "gs"
      refine use_take hp5 (by decide) (by decide) (fun i H6 i0 i1 hp6 k6 => ?_)
      obtain ⟨i, rfl⟩ := Int.eq_ofNat_of_zero_le i0
      have hS6 := k6.at_ _ _ hS (not_one npS)
      have hsS6 : SqL K H6 S (ns.map V.int) := SqL.of hS6
      walk_at "gs"
      refine i_new fun A fA => ?_
      rw [cutV_on, ← List.map_drop]
      have kA := Kp.new (ws := []) (o := HO.lst ((ns.drop i).map V.int)) fA
      have hA := fresh_at (o := HO.lst ((ns.drop i).map V.int)) fA
      obtain ⟨H7, e7⟩ : ∃ H7, H7 = upd H6 A (.lst ((ns.drop i).map V.int)) := ⟨_, rfl⟩
      rw [← e7] at kA hA ⊢
      have npA : A ≠ p := Ne.symm (hp6.ne fA)
      walk_at "gs"
      refine use_take (hp6.kp0 kA) (by decide) (by decide) (fun j H8 j0 j1 hp8 k8 => ?_)
      obtain ⟨j, rfl⟩ := Int.eq_ofNat_of_zero_le j0
      have hS8 := k8.at_ _ _ (kA.at_ _ _ hS6 not_nil) (not_one npS)
      have hA8 := k8.at_ _ _ hA (not_one npA)
      have hsS8 : SqL K H8 S (ns.map V.int) := SqL.of hS8
      walk_at "gs"
      refine i_new fun B fB => ?_
      rw [cutV_upto, ← List.map_take]
      have kB := Kp.new (ws := []) (o := HO.lst ((ns.take j).map V.int)) fB
      have hB := fresh_at (o := HO.lst ((ns.take j).map V.int)) fB
      have hA9 := kB.at_ _ _ hA8 not_nil
      have la := List.length_drop (i := i) (l := ns)
      have lb := List.length_take_le j ns
      walk_at "gs"
      refine i_new fun C fC => ?_
      rw [← List.map_append]
      obtain ⟨us, eus⟩ : ∃ us, us = ns.drop i ++ ns.take j := ⟨_, rfl⟩
      have lus : 0 < us.length ∧ us.length ≤ 10 := by
        rw [eus, List.length_append]
        omega
      have oku : ∀ n ∈ us, okN n := fun n hn => by
        rw [eus] at hn
        rcases List.mem_append.mp hn with h | h
        · exact okn n (List.mem_of_mem_drop h)
        · exact okn n (List.mem_of_mem_take h)
      rw [← eus]
      have kC := Kp.new (ws := []) (o := HO.lst (us.map V.int)) fC
      have hC := fresh_at (o := HO.lst (us.map V.int)) fC
      obtain ⟨H9, e9⟩ : ∃ H9, H9 = upd (upd H8 B (.lst ((ns.take j).map V.int))) C (.lst (us.map V.int)) := ⟨_, rfl⟩
      rw [← e9] at kC hC ⊢
      have hp9 := (hp8.kp0 kB).kp0 kC
      have npC : C ≠ p := Ne.symm ((hp8.kp0 kB).ne fC)
      have k09 : Kp [p] H H9 := Kp.trans k05 (Kp.trans k6 (Kp.trans kA.wide (Kp.trans k8 (Kp.trans kB kC).wide)))
      have hl9 := k09.seqL (not_one nlp) hl
      walk_at "gs"
      refine i_elts hl9 (fun R i H' => Pot3 H' p ∧ Kp [p] H9 H' ∧ ∃ (ys : List V) (prs : List (Int × Int)), H' R = some (.lst ys) ∧ PrsAt H' ys prs ∧ prs.map (·.1) = ws.take i ∧ ∀ q ∈ prs, okN q.2) ?_ ?_ ?_ ?_
      · intro R fR
        exact ⟨hp9.kp0 (Kp.new fR), Kp.new fR, [], [], upd_same, trivial, rfl, fun q hq => (nomatch hq)⟩
      · rintro R i H' fR _ ⟨_, kk, _⟩
        exact kk.seqL (not_one nlp) hl9
      · rintro R i y H' fR hy ⟨hp', kk, ys, prs, hR, py, em, okp⟩
        obtain ⟨w, hw, e⟩ := map_get hy
        subst e
        have hiw := (List.getElem?_eq_some_iff.mp hw).1
        have nRp : R ≠ p := Ne.symm (hp9.ne fR)
        have hC' := kk.at_ _ _ hC (not_one npC)
        walk_at "gs"
        refine ⟨p, C, us.map V.int, rfl, hp', SqL.of hC', npC, by rw [List.length_map]; exact lus.1, by rw [List.length_map]; omega, fun v H10 hv hp10 k10 => ?_⟩
        obtain ⟨n, hn, rfl⟩ := List.mem_map.mp hv
        walk_at "gs"
        refine i_new fun U fU => ?_
        have kU := Kp.new (ws := []) (o := HO.tup [.int w, .int n]) fU
        have hU := fresh_at (o := HO.tup [.int w, .int n]) fU
        have hR11 := kU.at_ _ _ (k10.at_ _ _ hR (not_one nRp)) not_nil
        have ly := py.len
        have lp := congrArg List.length em
        rw [List.length_map, List.length_take] at lp
        walk_at "gs"
        have kR := Kp.mut (ws := [R]) (o := HO.lst (ys ++ [.ref U])) hR11 (fun z => z) (List.mem_singleton.mpr rfl)
        refine ⟨_, hR11, small_sz (by omega), (hp10.kp0 kU).kp kR (not_one (Ne.symm nRp)), Kp.upd (Kp.trans kk (Kp.trans k10 kU.wide)) fR, ys ++ [.ref U], prs ++ [(w, n)], upd_same, ?_, ?_, fun q hq => ?_⟩
        · exact PrsAt.snoc (kR.fix _ _ hU trivial) (((py.kp k10).kp kU).kp kR)
        · rw [List.map_append, em, List.take_add_one, hw]
          rfl
        · rcases List.mem_append.mp hq with h | h
          · exact okp q h
          · rw [List.mem_singleton.mp h]
            exact oku n hn
      rintro Fd H10 fFd ⟨hp10, k10, ys, prs, hFd, py, em, okp⟩
      rw [List.length_map, List.take_length] at em
      walk_at "gs"
      refine i_dictPrs hFd py (by rw [em]; exact nd) (i_new fun d fd => ?_)
      have kd := Kp.new (ws := []) (o := HO.dK (prs.map kN)) fd
      have kAll : Kp [p] H H10 := Kp.trans k09 k10
      exact k d _ _ (kAll.free fd) (hp10.kp0 kd) (Kp.trans kAll kd.wide) upd_same em okp

theorem Tr3.rows_len' {D : Int → Int → Int} {ever : Int} {liv ks : List Int} {nb : Int → List Int} {rs : List (Int × Int)} {n : Nat} (z : Tr3 D ever liv ks nb) (he : ever ≤ n) (ro : RowsOf ks nb rs) : rs.length ≤ n * n := by
  have e2 : rs.Perm (rws nb ks) := (List.perm_ext_iff_of_nodup ro.nd (rws_nd z.nk z.rp.nd)).mpr fun q => by rw [ro.2, mem_rws]
  rw [e2.length_eq]
  have e3 := rws_len (nb := nb) (n := n) (ks := ks) fun u hu => by
    have := z.nlen hu
    omega
  have e4 := Nat.mul_le_mul_right n (show ks.length ≤ n by have := z.klen; omega)
  omega

/-! ### what a keeping costs -/
theorem u0 {n : Nat} (h : n + 64 < cLine) : n < cLine := by omega
def cst (f : Int → Int) (rs : List (Int × Int)) : Nat := (rs.filter fun q => !decide (f q.1 = f q.2)).length
/-- the low ends of rows of unlike numbers, counted by walking -/
def LkAt (H : Hp) (d : Addr) (prs : List (Int × Int)) (rs : List (Int × Int)) : Prop := H d = some (.dK (prs.map kN)) ∧ ∀ q ∈ rs, q.1 ∈ prs.map (·.1) ∧ q.2 ∈ prs.map (·.1)
theorem dpa_pair {K : PySem.W.Frag} {H : Hp} {vs : List V} {rs : List (Int × Int)} {i : Nat} {v : V} (h : DpAll K H vs (rs.map d2)) (e : vs[i]? = some v) : ∃ q t, rs[i]? = some q ∧ v = .ref t ∧ SqT K H t [.int q.1, .int q.2] := by
  obtain ⟨d, hd, dp⟩ := dpa_getV h e
  rw [List.getElem?_map] at hd
  cases hq : rs[i]? with
  | none => rw [hq] at hd; cases hd
  | some q =>
    rw [hq] at hd
    cases hd
    obtain ⟨t, rfl, ht⟩ := dp_pair dp
    exact ⟨q, t, rfl, rfl, ht⟩

/-! ### a set comprehension whose elements are numbers -/
section
open PySem.Calls PyProof.Rows PySem.Spec PyProof
variable {X : Cx}
/-- one number more goes into the set at D -/
def InSet (w : World) (D : Addr) (goOn : Hp → Prop) : VK := fun y Hy => ∃ (k : Int) (S : Int → Bool) (c : Nat), y = .int k ∧ Hy D = some (L2.SetO w D S c) ∧ c + 1 < scanBound ∧
  goOn (upd Hy D (L2.SetO w D (fun j => S j || decide (j = k)) (if S k = true then c else c + 1)))
/-- one turn of the comprehension's loop -/
def SetTurn (w : World) (J : It) (g : TG) (tt : TT) (te : TE) (vs : List Nat) (σ : L2.St) (D : Addr) (Wk : Nat → Nat → Hp → Prop) (j n : Nat) (Hw : Hp) : Prop :=
  J.go j Hw ∧ ∃ goOn : Hp → Prop, (∀ Hn, goOn Hn → ∃ n', n' < n ∧ Wk (j + 1) n' Hn) ∧
    ∀ x Hx, J.yld j Hw x Hx → g x (wipe σ vs) Hx fun τ Hg => wipe τ vs = wipe σ vs ∧ tt τ Hg fun b Ht => if b = true then te τ Ht (InSet w D goOn) else goOn Ht
def tScI (w : World) (wi : TI) (g : TG) (tt : TT) (te : TE) (vs : List Nat) : TE := fun σ H Q => wi σ H fun J Hi => ∀ D, Hi D = none →
  ∃ Wk : Nat → Nat → Hp → Prop, (∃ n, Wk 0 n (upd Hi D (L2.SetO w D (fun _ => false) 0))) ∧ ∀ j n Hw, Wk j n Hw → (J.stop j Hw ∧ Q (.ref D) Hw) ∨ SetTurn w J g tt te vs σ D Wk j n Hw
/-- the object that a new set is -/
abbrev setBorn (w : World) : Obj := { cls := .type "set", dict := none, data := .set #[] 0 (.fresh 0 0 (!w.params.followText "set-order")) }
abbrev setGrown (w : World) (s : Shared) : Shared := { s with heap := s.heap.push (setBorn w) }
theorem set_born {pins : List (Addr × Obj)} {σ : L2.St} {H : Hp} {s : Shared} (I : Inv X pins σ H s) :
    Inv X pins σ (upd H s.heap.objs.size (L2.SetO X.w s.heap.objs.size (fun _ => false) 0)) (setGrown X.w s) :=
  I.laid (t' := s.toks) (fun _ _ e => Heap.get?_push_of_some _ e) (Nat.le_refl _) (L2.setO_new (L2.setR_fresh X.w))
theorem set_more {pins : List (Addr × Obj)} {σ : L2.St} {H : Hp} {s : Shared} {D : Addr} {y : V} {u : Value} {goOn : Hp → Prop} (I : Inv X pins σ H s) (r : RelV y u) (h : InSet X.w D goOn y H) (E : Value → Shared → Prop) :
    wpAny (model X.prog X.w) X.A (call (.builtin "set.add") [.ref D, u]) (fun _ s' => ∃ H', Inv X pins σ H' s' ∧ goOn H') E s := by
  obtain ⟨k, S, c, rfl, hD, lc, nx⟩ := h
  obtain ⟨tk, rfl⟩ := r
  refine L2.setR_add (L2.setO_get I hD) lc fun h' same R => ⟨_, I.write (e := D) (t' := s.toks + 1) (by rw [hD]; trivial) (.inl rfl) (fun b o hb e => (same.2 b hb).trans e) ?_ (L2.setO_new R), nx⟩
  obtain ⟨o, _, _, _, e, _⟩ := R
  exact ⟨o, e⟩
/-- the loop, in its own block B -/
theorem set_loop {elt tg iter : Expr} {ifs : List Expr} {scope : Scope} {pos : Pos} {vs : List Nat} {g : TG} {tt : TT} {te : TE} {σ : L2.St} {Q : VK} {B : Cx} {J : It} {fp : List Addr} {it D : Addr} {tn : Nat → Heap → Prop} {Wk : Nat → Nat → Hp → Prop} {R : Result → Shared → Prop}
    (calm : B.calm = true) (quiet : ∀ e s', B.xe e s' → False) (T : Turn B.prog B.w B.K tg J fp it tn) (pg : PG B tg g) (pt : PTs B ifs tt) (pe : PE B elt te)
    (away : ∀ {τ : L2.St} {H' : Hp} {s' : Shared}, Inv B [] τ H' s' → (∀ b ∈ fp, H' b = none) → ∀ b ∈ fp, FpOk B [] H' b)
    (out : ∀ H' s', Inv B [] (wipe σ vs) H' s' → Q (.ref D) H' → R (.ok .next) s')
    (turns : ∀ j n Hw, Wk j n Hw → (J.stop j Hw ∧ Q (.ref D) Hw) ∨ SetTurn B.w J g tt te vs σ D Wk j n Hw)
    {n0 : Nat} {H0 : Hp} {s0 : Shared} (I0 : Inv B [] (wipe σ vs) H0 s0) (t0 : tn 0 s0.heap) (f0 : ∀ b ∈ fp, H0 b = none) (w0 : Wk 0 n0 H0) :
    codeAny (model B.prog B.w) B.A (.compLoop (.SetComp elt [⟨tg, iter, ifs, 0⟩] scope pos) 0 (.ref it) (.ref D) B.env) R s0 := by
  refine PpSet.compLoopS_any (fun n s' => ∃ j H', Inv B [] (wipe σ vs) H' s' ∧ tn j s'.heap ∧ (∀ b ∈ fp, H' b = none) ∧ Wk j n H') ?_ n0 ⟨0, H0, I0, t0, f0, w0⟩
  rintro n s1 ⟨j, H1, I1, t1, f1, w1⟩
  rcases turns j n H1 w1 with ⟨halt, q⟩ | ⟨go, goOn, dec, step⟩
  · refine thnF (T.done B rfl rfl rfl calm j [] s1 _ H1 (fun _ _ => False) I1 (away I1 f1) t1 halt) fun r s2 z => ?_
    obtain ⟨e, I2⟩ := z
    rw [e]
    exact out H1 s2 I2 q
  · refine thnF (T.item B rfl rfl rfl calm j [] s1 _ H1 (fun _ _ => False) I1 (away I1 f1) t1 go) fun r s2 z => ?_
    obtain ⟨u, e, z⟩ := z
    rw [e]
    refine thnF z fun _ s3 ⟨x, H3, I3, rx, yx, t3, f3⟩ => ?_
    have J3 := I3.pinned (away I3 f3) (T.obj _ _ t3)
    refine wpAny_mono (pg.run _ s3 _ H3 x u _ J3 rx (step x H3 yx)) (fun _ s4 z4 => ?_) fun e s' z => (quiet e s' z).elim
    obtain ⟨τ, H4, I4, e4, q4⟩ := z4
    refine wpAny_mono (pt.run _ s4 τ H4 _ I4 q4) (fun b s5 z5 => ?_) fun e s' z => (quiet e s' z).elim
    obtain ⟨H5, I5, q5⟩ := z5
    have back : ∀ {s' : Shared} {H' : Hp}, Inv B ([] ++ pinsAt fp s3.heap) τ H' s' → goOn H' → ∃ n', n' < n ∧ ∃ j H', Inv B [] (wipe σ vs) H' s' ∧ tn j s'.heap ∧ (∀ b ∈ fp, H' b = none) ∧ Wk j n' H' := fun {s' H'} I' gn => by
      obtain ⟨n', ln, w'⟩ := dec H' gn
      have held : ∀ b ∈ fp, ∀ o, s3.heap.get? b = some o → s'.heap.get? b = some o ∧ H' b = none := fun b hb o eo => by
        have z := I'.pin (b, o) (List.mem_append_right _ (List.mem_append_right _ (mem_pinsAt hb eo)))
        exact ⟨z.1, z.2.1⟩
      refine ⟨n', ln, j + 1, H', (I'.unpinned (pins := [])).weak (by rw [← e4, wipe_length]) (fun i v ei => ?_), T.keep _ _ _ t3 (fun b hb o eo => (held b hb o eo).1), fun b hb => ?_, w'⟩
      · rw [← e4] at ei
        exact (wipe_some ei).1
      · obtain ⟨o, eo, _⟩ := T.obj _ _ t3 b hb
        exact (held b hb o eo).2
    by_cases c : b = true
    · rw [if_pos c] at q5 ⊢
      refine wpAny_mono (pe.run _ s5 τ H5 _ I5 q5) (fun v s6 z6 => ?_) fun e s' z => (quiet e s' z).elim
      obtain ⟨y, H6, I6, ry, q6⟩ := z6
      exact thn (set_more I6 ry q6 _) fun _ s7 ⟨H7, I7, q7⟩ => back I7 q7
    · rw [if_neg c] at q5 ⊢
      exact back I5 q5
theorem pe_scI {elt tg iter : Expr} {ifs : List Expr} {scope : Scope} {own : List (PySem.Str × Nat)} {pos : Pos} {wi : TI} {g : TG} {tt : TT} {te : TE} (hc : X.calm = true) (nodup : X.N.Nodup) (walked : PI X tg iter wi) (blk : BlkOk X.N X.env.scope scope own)
    (pg : ∀ (t : Shared) (G : Hp) (C : Addr) (cells : List (PySem.Str × Addr)) (ps : List Addr), PG (X.blk t G scope (compEnvC scope cells C X.env) ps) tg g) (pt : ∀ (t : Shared) (G : Hp) (C : Addr) (cells : List (PySem.Str × Addr)) (ps : List Addr), PTs (X.blk t G scope (compEnvC scope cells C X.env) ps) ifs tt)
    (pe : ∀ (t : Shared) (G : Hp) (C : Addr) (cells : List (PySem.Str × Addr)) (ps : List Addr), PE (X.blk t G scope (compEnvC scope cells C X.env) ps) elt te) (unfolded : ∀ x, foldedSetIterable iter X.env x = pure x := by intro _; rfl) :
    PE X (.SetComp elt [⟨tg, iter, ifs, 0⟩] scope pos) (tScI X.w wi g tt te (own.map (·.2))) := by
  refine ⟨fun pins s σ H Q I q0 => ?_⟩
  rw [PpSet.eval_SetComp]
  have caught : ∀ y ∈ scope.names, y.2 = .free → ∃ c, X.env.cells.lookup y.1 = some c := fun y hy e => (blk.free y hy e).elim (fun k => I.ok.has _ (.inl k)) fun k => I.ok.has _ (.inr k)
  refine wpAny_comprehension_free (use := none) rfl unfolded (closure_ok caught) blk.kind (fun y hy e => (blk.uniq y hy).trans (congrArg some e)) (thn (walked.run pins s σ H _ I q0) fun _ _ z1 => thn z1 fun _ s2 z2 => ?_)
  obtain ⟨it, fp, tn, J, H2, eit, I2, T, t2, f2, q⟩ := z2
  rw [eit]
  refine PpSet.newSet_ok (newEnv_comp ?_)
  obtain ⟨Wk, ⟨n0, w0⟩, turns⟩ := q s2.heap.objs.size (I2.hok.fresh (Nat.le_refl _))
  have I3 := set_born I2
  have older : ∀ b ∈ fp, b < s2.heap.objs.size := fun b hb => by
    obtain ⟨o, e, _⟩ := T.obj _ _ t2 b hb
    exact Heap.lt_size e
  have apart : ∀ b ∈ fp, (upd H2 s2.heap.objs.size (L2.SetO X.w s2.heap.objs.size (fun _ => false) 0)) b = none := fun b hb => (upd_ne (Nat.ne_of_lt (older b hb))).trans (f2 b hb).1
  have size3 : (setGrown X.w s2).heap.objs.size = s2.heap.objs.size + 1 := Heap.size_push ..
  have f3 : ∀ b ∈ fp, FpOk X pins (upd H2 s2.heap.objs.size (L2.SetO X.w s2.heap.objs.size (fun _ => false) 0)) b ∧ b < (setGrown X.w s2).heap.objs.size := fun b hb =>
    ⟨⟨apart b hb, (f2 b hb).2⟩, by rw [size3]; exact Nat.lt_succ_of_lt (older b hb)⟩
  have I4 := block_start I3 blk nodup f3
  have t3 : tn 0 (setGrown X.w s2).heap := T.keep _ _ _ t2 fun b _ o e => Heap.get?_push_of_some _ e
  have t4 : tn 0 (pushCells ((setGrown X.w s2).heap.push { cls := .type "dict", data := .dict #[] }) scope.names) := T.keep _ _ _ t3 fun b _ o e => pushCells_keeps _ _ _ _ (Heap.get?_push_of_some _ e)
  have whole := set_loop (R := compPost (model X.prog X.w) X.A X.xe none (EP X pins σ Q) (.ref s2.heap.objs.size) (setGrown X.w s2).heap.objs.size) (Q := Q) (scope := scope) (elt := elt) (iter := iter) (pos := pos) (D := s2.heap.objs.size)
    (B := X.blk (setGrown X.w s2) (upd H2 s2.heap.objs.size (L2.SetO X.w s2.heap.objs.size (fun _ => false) 0)) scope (compEnvC scope (cellsFrom ((setGrown X.w s2).heap.objs.size + 1) scope.names (cloFrom X.env.cells scope.names [])) (setGrown X.w s2).heap.objs.size X.env) fp)
    hc (fun _ _ z => z) T (pg _ _ _ _ _) (pt _ _ _ _ _) (pe _ _ _ _ _) (fun {τ H' s'} Iw nw b hb => ⟨nw b hb, (Iw.ok.exf b hb).1, Iw.ok.exfs b hb, .inl hb, (Iw.ok.exf b hb).2, fun p hp => by cases hp⟩) (fun H' s' Iw qw => ?_) turns I4 t4 apart w0
  · exact PpSet.codeAny_compStart_set whole (T.self X.A 0 _ _ _ t4 whole)
  · obtain ⟨m, named, _⟩ := Iw.loc
    have Ix : Inv X pins σ H' s' := I3.call' (ch := fp) Iw.os Iw.base Iw.hok Iw.bare fun b hb => by
      obtain ⟨_, a1, _, a3, a4, a5⟩ := (f3 b hb).1
      exact ⟨a3, a1, a4, a5⟩
    have gone : H' (setGrown X.w s2).heap.objs.size = none := Iw.free
    obtain ⟨b0, b1, b2, b3, b4, b5⟩ := I3.fpOk (Nat.le_refl _) gone
    exact ⟨m, named, fun h' same => ⟨.ref s2.heap.objs.size, H', Ix.turned (t' := s'.toks) (fun b o hb e => (same.2 b hb).trans e) b0 b1 b3 b4 b5, rfl, qw⟩⟩
theorem k_scI {w : World} {elt tg iter : Expr} {ifs : List Expr} {scope : Scope} {own : List (PySem.Str × Nat)} {pos : Pos} {wi : TI} {g : TG} {tt : TT} {te : TE} (hw : X.w = w) (hc : X.calm = true) (nodup : X.N.Nodup) (walked : PI X tg iter wi) (blk : BlkOk X.N X.env.scope scope own)
    (pg : ∀ (t : Shared) (G : Hp) (C : Addr) (cells : List (PySem.Str × Addr)) (ps : List Addr), PG (X.blk t G scope (compEnvC scope cells C X.env) ps) tg g) (pt : ∀ (t : Shared) (G : Hp) (C : Addr) (cells : List (PySem.Str × Addr)) (ps : List Addr), PTs (X.blk t G scope (compEnvC scope cells C X.env) ps) ifs tt)
    (pe : ∀ (t : Shared) (G : Hp) (C : Addr) (cells : List (PySem.Str × Addr)) (ps : List Addr), PE (X.blk t G scope (compEnvC scope cells C X.env) ps) elt te) (unfolded : ∀ x, foldedSetIterable iter X.env x = pure x := by intro _; rfl) :
    PE X (.SetComp elt [⟨tg, iter, ifs, 0⟩] scope pos) (tScI w wi g tt te (own.map (·.2))) := hw ▸ pe_scI hc nodup walked blk pg pt pe unfolded
end
/-! ### over the values of a dict -/
section
variable {w : World} {σ : L2.St} {H H1 : Hp} {Q : VK} {d : Addr} {g : TG} {tt : TT} {te td : TE} {vs : List Nat} {o : Obj} {kvs : List (Key × V)} {D : Ends} {tb : TS}
def LcV (x : V) (g : TG) (tt : TT) (te : TE) (vs : List Nat) (σ : L2.St) (H1 : Hp) (Q : VK) : Prop := ∃ d o kvs, x = .ref d ∧ H1 d = some (.frz o (.dK kvs)) ∧ ∀ R, H1 R = none → ∃ W : Nat → Nat → Hp → Prop, (∃ m, W 0 m (upd H1 R (.lst []))) ∧ ∀ i m H, W i m H →
  ((Itd d o kvs).stop i H ∧ Q (.ref R) H) ∨ ((Itd d o kvs).go i H ∧ ∃ Nx : Hp → Prop, (∀ H', Nx H' → ∃ m', m' < m ∧ W (i + 1) m' H') ∧ ∀ x H', (Itd d o kvs).yld i H x H' → g x (wipe σ vs) H' fun σ2 H2 => wipe σ2 vs = wipe σ vs ∧ tt σ2 H2 fun b H3 =>
    if b = true then te σ2 H3 fun y H4 => ∃ acc, H4 R = some (.lst acc) ∧ acc.length < sizeLine ∧ Nx (upd H4 R (.lst (acc ++ [y]))) else Nx H3)
theorem i_lcV (h : td σ H fun x H1 => LcV x g tt te vs σ H1 Q) : tLc (iVals td) g tt te vs σ H Q := h
theorem i_valG (hd : H d = some (.frz o (.dK kvs))) (Pv : Addr → Nat → Hp → Prop)
    (h0 : ∀ R, Fr H R → Pv R 0 (upd H R (.lst [])))
    (hl : ∀ R i H', Fr H R → Pv R i H' → H' d = some (.frz o (.dK kvs)))
    (st : ∀ R i k v H', Fr H R → kvs[i]? = some (k, v) → Pv R i H' → g v (wipe σ vs) H' fun σ2 H2 =>
      wipe σ2 vs = wipe σ vs ∧ tt σ2 H2 fun b H3 => if b = true then te σ2 H3 fun y H4 =>
        ∃ acc, H4 R = some (.lst acc) ∧ acc.length < sizeLine ∧ Pv R (i + 1) (upd H4 R (.lst (acc ++ [y])))
        else Pv R (i + 1) H3)
    (hdn : ∀ R H', Fr H R → Pv R kvs.length H' → Q (.ref R) H') : LcV (.ref d) g tt te vs σ H Q := by
  refine ⟨d, o, kvs, rfl, hd, fun R hR => ⟨fun i m H' => m = kvs.length - i ∧ i ≤ kvs.length ∧ Pv R i H', ⟨_, rfl, Nat.zero_le _, h0 R ⟨hR⟩⟩, ?_⟩⟩
  rintro i m H' ⟨rfl, hi, z⟩
  have q := hl R i H' ⟨hR⟩ z
  by_cases c : i < kvs.length
  · refine .inr ⟨⟨q, c⟩, Pv R (i + 1), fun H2 w => ⟨_, by omega, rfl, c, w⟩, ?_⟩
    rintro x H2 ⟨rfl, k, e⟩
    exact st R i k x _ ⟨hR⟩ e z
  · have e : i = kvs.length := by omega
    exact .inl ⟨⟨q, by omega⟩, hdn R H' ⟨hR⟩ (by rw [← e]; exact z)⟩
/-- the pairs of a dict, as a comprehension -/
def LcIt (x : V) (g : TG) (tt : TT) (te : TE) (vs : List Nat) (σ : L2.St) (H1 : Hp) (Q : VK) : Prop := ∃ d o kvs, x = .ref d ∧ H1 d = some (.frz o (.dK kvs)) ∧ ∀ R, H1 R = none → ∃ W : Nat → Nat → Hp → Prop, (∃ m, W 0 m (upd H1 R (.lst []))) ∧ ∀ i m H, W i m H →
  ((Iti d o kvs).stop i H ∧ Q (.ref R) H) ∨ ((Iti d o kvs).go i H ∧ ∃ Nx : Hp → Prop, (∀ H', Nx H' → ∃ m', m' < m ∧ W (i + 1) m' H') ∧ ∀ x H', (Iti d o kvs).yld i H x H' → g x (wipe σ vs) H' fun σ2 H2 => wipe σ2 vs = wipe σ vs ∧ tt σ2 H2 fun b H3 =>
    if b = true then te σ2 H3 fun y H4 => ∃ acc, H4 R = some (.lst acc) ∧ acc.length < sizeLine ∧ Nx (upd H4 R (.lst (acc ++ [y]))) else Nx H3)
theorem i_lcIt (h : td σ H fun x H1 => LcIt x g tt te vs σ H1 Q) : tLc (iItems td) g tt te vs σ H Q := h
theorem i_pairG (hd : H d = some (.frz o (.dK kvs))) (Pv : Addr → Nat → Hp → Prop)
    (h0 : ∀ R, Fr H R → Pv R 0 (upd H R (.lst [])))
    (hl : ∀ R i H', Fr H R → Pv R i H' → H' d = some (.frz o (.dK kvs)))
    (st : ∀ R i k v T H', Fr H R → kvs[i]? = some (k, v) → Pv R i H' → Fr H' T → g (.ref T) (wipe σ vs) (upd H' T (.tup [kV k, v])) fun σ2 H2 =>
      wipe σ2 vs = wipe σ vs ∧ tt σ2 H2 fun b H3 => if b = true then te σ2 H3 fun y H4 =>
        ∃ acc, H4 R = some (.lst acc) ∧ acc.length < sizeLine ∧ Pv R (i + 1) (upd H4 R (.lst (acc ++ [y])))
        else Pv R (i + 1) H3)
    (hdn : ∀ R H', Fr H R → Pv R kvs.length H' → Q (.ref R) H') : LcIt (.ref d) g tt te vs σ H Q := by
  refine ⟨d, o, kvs, rfl, hd, fun R hR => ⟨fun i m H' => m = kvs.length - i ∧ i ≤ kvs.length ∧ Pv R i H', ⟨_, rfl, Nat.zero_le _, h0 R ⟨hR⟩⟩, ?_⟩⟩
  rintro i m H' ⟨rfl, hi, z⟩
  have q := hl R i H' ⟨hR⟩ z
  by_cases c : i < kvs.length
  · refine .inr ⟨⟨q, c⟩, Pv R (i + 1), fun H2 w => ⟨_, by omega, rfl, c, w⟩, ?_⟩
    rintro x H2 ⟨T, k, v, e, rfl, hT, rfl⟩
    exact st R i k v T _ ⟨hR⟩ e z ⟨hT⟩
  · have e : i = kvs.length := by omega
    exact .inl ⟨⟨q, by omega⟩, hdn R H' ⟨hR⟩ (by rw [← e]; exact z)⟩
/-- the pairs of a dict, as a loop -/
def ForIt (x : V) (g : TG) (tb : TS) (D : Ends) (σ : L2.St) (H1 : Hp) : Prop := ∃ d o kvs, x = .ref d ∧ H1 d = some (.frz o (.dK kvs)) ∧ ∃ W : Nat → Nat → L2.St → Hp → Prop, (∃ m, W 0 m σ H1) ∧ ∀ i m σ H, W i m σ H →
  ((Iti d o kvs).stop i H ∧ D.nx σ H) ∨ ((Iti d o kvs).go i H ∧ ∃ N : L2.St → Hp → Prop, (∀ σ' H', N σ' H' → ∃ m', m' < m ∧ W (i + 1) m' σ' H') ∧ ∀ x H', (Iti d o kvs).yld i H x H' → g x σ H' fun σ2 H2 => tb { D with nx := N, ct := N, bk := D.nx } σ2 H2)
theorem i_forIt (h : td σ H fun x H1 => ForIt x g tb D σ H1) : tFor (iItems td) g tb D σ H := h
theorem i_eachIt (hd : H d = some (.frz o (.dK kvs))) (Pv : Nat → L2.St → Hp → Prop) (h0 : Pv 0 σ H) (hl : ∀ i σ H', Pv i σ H' → H' d = some (.frz o (.dK kvs)))
    (st : ∀ i k v T σ H', kvs[i]? = some (k, v) → Pv i σ H' → Fr H' T → g (.ref T) σ (upd H' T (.tup [kV k, v])) fun σ2 H2 => tb { D with nx := Pv (i + 1), ct := Pv (i + 1), bk := D.nx } σ2 H2)
    (hdn : ∀ σ H', Pv kvs.length σ H' → D.nx σ H') : ForIt (.ref d) g tb D σ H := by
  refine ⟨d, o, kvs, rfl, hd, fun i m σ H' => m = kvs.length - i ∧ i ≤ kvs.length ∧ Pv i σ H', ⟨_, rfl, Nat.zero_le _, h0⟩, ?_⟩
  rintro i m σ H' ⟨rfl, hi, z⟩
  have q := hl i σ H' z
  by_cases c : i < kvs.length
  · refine .inr ⟨⟨q, c⟩, Pv (i + 1), fun σ2 H2 w => ⟨_, by omega, rfl, c, w⟩, ?_⟩
    rintro x H2 ⟨T, k, v, e, rfl, hT, rfl⟩
    exact st i k v T σ _ e z ⟨hT⟩
  · have e : i = kvs.length := by omega
    exact .inl ⟨⟨q, by omega⟩, hdn σ H' (by rw [← e]; exact z)⟩
/-- a set of the values -/
def ScV (w : World) (x : V) (g : TG) (tt : TT) (te : TE) (vs : List Nat) (σ : L2.St) (H1 : Hp) (Q : VK) : Prop := ∃ d o kvs, x = .ref d ∧ H1 d = some (.frz o (.dK kvs)) ∧ ∀ R, H1 R = none →
  ∃ Wk : Nat → Nat → Hp → Prop, (∃ n, Wk 0 n (upd H1 R (L2.SetO w R (fun _ => false) 0))) ∧ ∀ j n Hw, Wk j n Hw → ((Itd d o kvs).stop j Hw ∧ Q (.ref R) Hw) ∨ SetTurn w (Itd d o kvs) g tt te vs σ R Wk j n Hw
theorem i_scV (h : td σ H fun x H1 => ScV w x g tt te vs σ H1 Q) : tScI w (iVals td) g tt te vs σ H Q := h
theorem i_valS (hd : H d = some (.frz o (.dK kvs))) (Pv : Addr → Nat → Hp → Prop)
    (h0 : ∀ R, Fr H R → Pv R 0 (upd H R (L2.SetO w R (fun _ => false) 0)))
    (hl : ∀ R i H', Fr H R → Pv R i H' → H' d = some (.frz o (.dK kvs)))
    (st : ∀ R i k v H', Fr H R → kvs[i]? = some (k, v) → Pv R i H' → g v (wipe σ vs) H' fun σ2 H2 =>
      wipe σ2 vs = wipe σ vs ∧ tt σ2 H2 fun b H3 => if b = true then te σ2 H3 (InSet w R (Pv R (i + 1))) else Pv R (i + 1) H3)
    (hdn : ∀ R H', Fr H R → Pv R kvs.length H' → Q (.ref R) H') : ScV w (.ref d) g tt te vs σ H Q := by
  refine ⟨d, o, kvs, rfl, hd, fun R hR => ⟨fun i m H' => m = kvs.length - i ∧ i ≤ kvs.length ∧ Pv R i H', ⟨_, rfl, Nat.zero_le _, h0 R ⟨hR⟩⟩, ?_⟩⟩
  rintro i m H' ⟨rfl, hi, z⟩
  have q := hl R i H' ⟨hR⟩ z
  by_cases c : i < kvs.length
  · refine .inr ⟨⟨q, c⟩, Pv R (i + 1), fun H2 w => ⟨_, by omega, rfl, c, w⟩, ?_⟩
    rintro x H2 ⟨rfl, k, e⟩
    exact st R i k x _ ⟨hR⟩ e z
  · have e : i = kvs.length := by omega
    exact .inl ⟨⟨q, by omega⟩, hdn R H' ⟨hR⟩ (by rw [← e]; exact z)⟩
end

/-! ### for each number its least cost, and how many have it -/
def WysAt (H : Hp) : List (Key × V) → List (Int × Int × Int) → Prop
  | [], [] => True
  | kv :: kvs, q :: qs => (∃ t, kv = (.inl q.1, .ref t) ∧ H t = some (.tup [.int q.2.1, .int q.2.2])) ∧ WysAt H kvs qs
  | _, _ => False
theorem WysAt.len {H : Hp} : ∀ {kvs : List (Key × V)} {qs : List (Int × Int × Int)}, WysAt H kvs qs → kvs.length = qs.length
  | [], [], _ => rfl
  | _ :: _, _ :: _, h => by rw [List.length_cons, List.length_cons, WysAt.len h.2]
  | [], _ :: _, h => h.elim
  | _ :: _, [], h => h.elim
theorem WysAt.kp {H H' : Hp} {ws : List Addr} (k : Kp ws H H') : ∀ {kvs : List (Key × V)} {qs : List (Int × Int × Int)}, WysAt H kvs qs → WysAt H' kvs qs
  | [], [], _ => trivial
  | _ :: _, _ :: _, ⟨⟨t, e, h⟩, r⟩ => ⟨⟨t, e, k.fix _ _ h trivial⟩, WysAt.kp k r⟩
  | [], _ :: _, h => h.elim
  | _ :: _, [], h => h.elim
theorem WysAt.get {H : Hp} : ∀ {kvs : List (Key × V)} {qs : List (Int × Int × Int)} {i : Nat} {k : Key} {v : V}, WysAt H kvs qs → kvs[i]? = some (k, v) → ∃ t q, qs[i]? = some q ∧ k = .inl q.1 ∧ v = .ref t ∧ H t = some (.tup [.int q.2.1, .int q.2.2])
  | [], _, _, _, _, _, e => by simp at e
  | _ :: _, [], _, _, _, h, _ => h.elim
  | _ :: _, q :: _, 0, k, v, ⟨⟨t, e, h⟩, _⟩, ev => by
    rw [List.getElem?_cons_zero, e] at ev
    injection ev with ev
    injection ev with e1 e2
    exact ⟨t, q, rfl, e1.symm, e2.symm, h⟩
  | _ :: kvs, _ :: qs, i + 1, k, v, ⟨_, r⟩, ev => by
    rw [List.getElem?_cons_succ] at ev ⊢
    exact WysAt.get r ev
theorem WysAt.snoc {H : Hp} {t : Addr} {q : Int × Int × Int} (e : H t = some (.tup [.int q.2.1, .int q.2.2])) : ∀ {kvs : List (Key × V)} {qs : List (Int × Int × Int)}, WysAt H kvs qs → WysAt H (kvs ++ [(.inl q.1, .ref t)]) (qs ++ [q])
  | [], [], _ => ⟨⟨t, rfl, e⟩, trivial⟩
  | _ :: _, _ :: _, ⟨a, r⟩ => ⟨a, WysAt.snoc e r⟩
  | [], _ :: _, h => h.elim
  | _ :: _, [], h => h.elim
theorem WysAt.val {H : Hp} {n : Int} : ∀ {kvs : List (Key × V)} {qs : List (Int × Int × Int)}, WysAt H kvs qs → (∃ t c m, valV kvs (.inl n) = some (.ref t) ∧ wlook qs n = some (c, m) ∧ H t = some (.tup [.int c, .int m])) ∨ (valV kvs (.inl n) = none ∧ wlook qs n = none)
  | [], [], _ => .inr ⟨rfl, rfl⟩
  | kv :: kvs, q :: qs, ⟨⟨t, e, h⟩, r⟩ => by
    subst e
    by_cases c : q.1 = n
    · refine .inl ⟨t, q.2.1, q.2.2, ?_, ?_, h⟩
      · rw [valV_pos (show (Sum.inl q.1 : Key) = .inl n by rw [c])]
      · unfold wlook
        rw [List.find?_cons, decide_eq_true c]
        rfl
    · have e1 : wlook (q :: qs) n = wlook qs n := by
        unfold wlook
        rw [List.find?_cons, decide_eq_false c]
      have e2 : valV ((Sum.inl q.1, V.ref t) :: kvs) (.inl n : Key) = valV kvs (.inl n) := valV_neg fun z => by
        injection z with z
        exact c z
      rw [e1, e2]
      exact WysAt.val r
  | [], _ :: _, h => h.elim
  | _ :: _, [], h => h.elim
theorem k_min1 {X : Cx} {K : PySem.W.Frag} (h : X.K = K) (hc : X.calm = true) : CallR X (.builtin "min") (rMin K) := h ▸ cr_min hc
theorem take_map_int {α : Type} {f : α → Int} {l : List α} {i : Nat} {x : α} (h : l[i]? = some x) : ((l.take (i + 1)).map f).map V.int = ((l.take i).map f).map V.int ++ [V.int (f x)] := by
  rw [List.take_add_one, h, Option.toList_some, List.map_append, List.map_append]
  rfl
def sp_best_of (K : PySem.W.Frag) : Sp := fun vs H Q _ => ∃ (a : Addr) (kvs : List (Key × V)) (qs : List (Int × Int × Int)), vs = [.ref a] ∧ H a = some (.dK kvs) ∧ WysAt H kvs qs ∧ qs ≠ [] ∧ qs.length ≤ 1000 ∧
  ∀ R H', Fr H R → Kp [] H H' → H' R = some (.tup [.int (bestC qs), .int (bestM qs)]) → Q (.ref R) H'
theorem sc_best_of : FnScope ["ways", "least", "cost", "many"] ["ways"] (defScope s_best_of) :=
  ⟨rfl, rfl, rfl, by decide +kernel, rfl, by decide +kernel, by decide +kernel⟩
theorem ok_best_of {P : Program} {w : World} {K : PySem.W.Frag} {mg : Str → Option Value} {base : Heap} (T : Txt K mg) :
    FnG P w K mg base 1 T.a_best_of T.d_best_of ["ways"] (sp_best_of K) := by
  refine okD T.F_best_of sc_best_of (fun vs H Q E h => ?_) (fun cdv A outer s H vs Q E hr h => ?_)
  · first
      | (obtain ⟨_, rfl, _⟩ := h; rfl)
      | (obtain ⟨_, _, rfl, _⟩ := h; rfl)
      | (obtain ⟨_, _, _, rfl, _⟩ := h; rfl)
      | (obtain ⟨_, _, _, _, rfl, _⟩ := h; rfl)
      | (obtain ⟨_, _, _, _, _, rfl, _⟩ := h; rfl)
      | (obtain ⟨_, _, _, _, _, _, rfl, _⟩ := h; rfl)
      | (obtain ⟨_, _, _, _, _, _, _, rfl, _⟩ := h; rfl)
      | (obtain ⟨_, _, _, _, _, _, _, _, rfl, _⟩ := h; rfl)
      | (obtain ⟨_, _, _, _, _, _, _, _, _, rfl, _⟩ := h; rfl)
      | (obtain ⟨_, _, _, _, _, _, _, _, _, _, rfl, _⟩ := h; rfl)
      | (obtain ⟨_, _, _, _, _, _, _, _, _, _, _, rfl, _⟩ := h; rfl)
      | (obtain ⟨_, _, _, _, _, _, _, _, _, _, _, _, rfl, _⟩ := h; rfl)
      | (obtain ⟨_, _, _, _, _, _, _, _, _, _, _, _, _, rfl, _⟩ := h; rfl)
      | (obtain ⟨_, _, _, _, _, _, _, _, _, _, _, _, _, _, rfl, _⟩ := h; rfl)
      | (obtain ⟨_, _, _, _, _, _, _, _, _, _, _, _, _, _, _, rfl, _⟩ := h; rfl)
      | (obtain ⟨_, _, _, _, _, _, _, _, _, _, _, _, _, _, _, _, rfl, _⟩ := h; rfl)
      | (obtain ⟨_, _, _, _, _, _, _, _, _, _, _, _, _, _, _, _, _, rfl, _⟩ := h; rfl)
      | (obtain ⟨_, _, _, _, _, _, _, _, _, _, _, _, _, _, _, _, _, _, rfl, _⟩ := h; rfl)
      | (obtain ⟨_, _, _, _, _, _, _, _, _, _, _, _, _, _, _, _, _, _, _, rfl, _⟩ := h; rfl)
  · obtain ⟨a, kvs, qs, rfl, ha, hq, ne, lq, k⟩ := h
    have lk := hq.len
    have cl_Ties := T.cl_Ties
    have na_Ties_near := T.na_Ties_near
    have na_Ties_own_ever := T.na_Ties_own_ever
    have na_Ties_own_living := T.na_Ties_own_living
    refine ⟨_, (pss_cons (ps_set (i := 1) sc_best_of.nd rfl (Or.inr rfl) (pe_callB (k_min1 (K := K) rfl rfl) (by rfl) T.n_min (by decide +kernel) (pa_cons (pe_lock (pe_lc (own := [("cost", 2), ("many", 3)]) (g := (gTup K 2 (gCons (gName 2) (gCons (gName 3) gNil)))) (tt := tYes) rfl sc_best_of.nd (pi_values (pv 0)) (blkOk_by (own := [("cost", 2), ("many", 3)]) (N := ["ways", "least", "cost", "many"]) (sc := defScope s_best_of) (by decide +kernel)) (fun _ _ _ _ _ => (k_gtup (K := K) 2 rfl rfl (pgs_cons (pg_name (i := 2) sc_best_of.nd rfl (Or.inl rfl)) (pgs_cons (pg_name (i := 3) sc_best_of.nd rfl (Or.inl rfl)) pgs_nil)))) (fun _ _ _ _ _ => pts_nil) (fun _ _ _ _ _ => (pv 2)))) pa_nil)))
      (pss_one (ps_ret (pe_tup (pa_cons (pv 1) (pa_cons (pe_callB (k_sum (K := K) rfl rfl) (by rfl) T.n_sum (by decide +kernel) (pa_cons (pe_lock (pe_lc (own := [("cost", 2), ("many", 3)]) (g := (gTup K 2 (gCons (gName 2) (gCons (gName 3) gNil)))) rfl sc_best_of.nd (pi_values (pv 0)) (blkOk_by (own := [("cost", 2), ("many", 3)]) (N := ["ways", "least", "cost", "many"]) (sc := defScope s_best_of) (by decide +kernel)) (fun _ _ _ _ _ => (k_gtup (K := K) 2 rfl rfl (pgs_cons (pg_name (i := 2) sc_best_of.nd rfl (Or.inl rfl)) (pgs_cons (pg_name (i := 3) sc_best_of.nd rfl (Or.inl rfl)) pgs_nil)))) (fun _ _ _ _ _ => (pts_one (pt_cmpR (k_eq (K := K) rfl hr.r.units) (pv 2) (pv 1) (nomark _)))) (fun _ _ _ _ _ => (pv 3)))) pa_nil)) pa_nil)))))), ?_⟩
    dsimp only [cxOf, st_1, st_2, st_3, st_4, st_5, st_6, List.length_cons, List.length_nil, List.replicate_succ, List.replicate_zero, Nat.reduceAdd, Nat.reduceSub]
    walk_at "gs"
    refine i_lockE ha fun od => ?_
    refine i_lcV ?_
    walk_at "gs"
    have kF : Kp [a] H (upd H a (.frz od (.dK kvs))) := kp_set ha (fun z => z)
    have hq1 := hq.kp kF
    refine i_valG upd_same (fun R i H' => Kp [] (upd H a (.frz od (.dK kvs))) H' ∧ H' R = some (.lst (((qs.take i).map fun q => q.2.1).map V.int))) ?_ ?_ ?_ ?_
    · intro R fR
      exact ⟨Kp.new fR, upd_same⟩
    · rintro R i H' fR ⟨kk, _⟩
      exact kk.at_ _ _ upd_same not_nil
    · rintro R i ky v H' fR hy ⟨kk, hR⟩
      obtain ⟨t, q, hqi, rfl, rfl, ht⟩ := (hq1.kp kk).get hy
      have hst : SqT K H' t [.int q.2.1, .int q.2.2] := SqT.of ht
      have hil := (List.getElem?_eq_some_iff.mp hqi).1
      walk_at "gs"
      refine ⟨_, hR, small_sz (by rw [List.length_map, List.length_map, List.length_take]; omega), Kp.upd kk fR, ?_⟩
      rw [take_map_int hqi]
      exact upd_same
    rintro R H1 fR ⟨k1, hR⟩
    rw [lk, List.take_length] at hR
    have nRa : R ≠ a := fun e => by
      rw [e] at fR
      have := fR.e
      rw [upd_same] at this
      cases this
    refine ⟨k1.at_ _ _ upd_same not_nil, ?_⟩
    have kU : Kp [] H (upd H1 a (.dK kvs)) := kp_unl ha (fun z => z) k1
    have hRU : (upd H1 a (.dK kvs)) R = some (.lst ((qs.map fun q => q.2.1).map V.int)) := upd_nn nRa hR
    have haU : (upd H1 a (.dK kvs)) a = some (.dK kvs) := upd_same
    obtain ⟨H2, e2⟩ : ∃ H2, H2 = upd H1 a (.dK kvs) := ⟨_, rfl⟩
    rw [← e2] at kU hRU haU ⊢
    walk_at "gs"
    refine ⟨R, _, rfl, SqL.of hRU, by rw [List.length_map]; exact List.length_pos_iff.mpr ne, fun m hm hmin => ?_⟩
    have em : m = bestC qs := minL_uniq hm hmin
    subst em
    walk_at "gs"
    refine i_lockE haU fun od2 => ?_
    refine i_lcV ?_
    walk_at "gs"
    have kF2 : Kp [a] H2 (upd H2 a (.frz od2 (.dK kvs))) := kp_set haU (fun z => z)
    have hq2 := (hq.kp kU).kp kF2
    refine i_valG upd_same (fun R i H' => Kp [] (upd H2 a (.frz od2 (.dK kvs))) H' ∧ H' R = some (.lst ((((qs.take i).filter fun q => decide (q.2.1 = bestC qs)).map fun q => q.2.2).map V.int))) ?_ ?_ ?_ ?_
    · intro R fR
      exact ⟨Kp.new fR, upd_same⟩
    · rintro R i H' fR ⟨kk, _⟩
      exact kk.at_ _ _ upd_same not_nil
    · rintro R i ky v H' fR hy ⟨kk, hR⟩
      obtain ⟨t, q, hqi, rfl, rfl, ht⟩ := (hq2.kp kk).get hy
      have hst : SqT K H' t [.int q.2.1, .int q.2.2] := SqT.of ht
      have hil := (List.getElem?_eq_some_iff.mp hqi).1
      have step := filter_step (f := fun q : Int × Int × Int => decide (q.2.1 = bestC qs)) hqi
      have l1 := List.length_filter_le (fun q : Int × Int × Int => decide (q.2.1 = bestC qs)) (qs.take i)
      have l2 : (qs.take i).length ≤ qs.length := by rw [List.length_take]; omega
      walk_at "gs"
      refine i_dec (fun c => ?_) (fun c => ?_)
      · walk_at "gs"
        refine ⟨_, hR, small_sz (by rw [List.length_map, List.length_map]; omega), Kp.upd kk fR, ?_⟩
        rw [step, if_pos (decide_eq_true c), List.map_append, List.map_append]
        exact upd_same
      · refine ⟨kk, ?_⟩
        rw [step, if_neg (by simpa using c), List.append_nil]
        exact hR
    rintro R2 H3 fR2 ⟨k3, hR2⟩
    rw [lk, List.take_length] at hR2
    have nR2a : R2 ≠ a := fun e => by
      rw [e] at fR2
      have := fR2.e
      rw [upd_same] at this
      cases this
    refine ⟨k3.at_ _ _ upd_same not_nil, ?_⟩
    have kV2 : Kp [] H2 (upd H3 a (.dK kvs)) := kp_unl haU (fun z => z) k3
    have hsR2 : SqL K (upd H3 a (.dK kvs)) R2 (((qs.filter fun q => decide (q.2.1 = bestC qs)).map fun q => q.2.2).map V.int) := SqL.of (upd_nn nR2a hR2)
    walk_at "gs"
    refine ⟨R2, _, rfl, hsR2, ?_⟩
    walk_at "gs"
    refine i_new fun T fT => ?_
    have kT := Kp.new (ws := []) (o := HO.tup [.int (bestC qs), .int (bestM qs)]) fT
    have kUV := Kp.trans kU kV2
    exact k T _ (kUV.free fT) (Kp.trans kUV kT) upd_same

/-! ### a dict walked in a loop, asked with a default, made anew -/
theorem i_lockS {t : TS} {D : Ends} {σ : L2.St} {H : Hp} {d : Addr} {kvs : List (Key × V)} (h : H d = some (.dK kvs))
    (k : ∀ od, t ⟨fun σ' H' => H' d = some (.frz od (.dK kvs)) ∧ D.nx σ' (upd H' d (.dK kvs)), fun v H' => H' d = some (.frz od (.dK kvs)) ∧ D.rt v (upd H' d (.dK kvs)), fun σ' H' => H' d = some (.frz od (.dK kvs)) ∧ D.bk σ' (upd H' d (.dK kvs)), fun σ' H' => H' d = some (.frz od (.dK kvs)) ∧ D.ct σ' (upd H' d (.dK kvs))⟩ σ (upd H d (.frz od (.dK kvs)))) : tLock t D σ H := ⟨d, _, h, trivial, k⟩
theorem kp_unlW {ws : List Addr} {H3 H4 : Hp} {d : Addr} {u v : HO} (h : H3 d = some u) (nu : ¬ Fix u) (k : Kp ws (upd H3 d v) H4) (n : ∀ b, b ∈ ws → d ≠ b) : Kp ws H3 (upd H4 d u) := by
  refine ⟨fun a o e na => ?_, fun a o e f => ?_, fun a o e => ?_⟩
  · by_cases z : a = d
    · subst z
      rw [h] at e
      cases e
      exact upd_same
    · rw [upd_ne z]
      exact k.at_ a o (by rw [upd_ne z]; exact e) na
  · have z : a ≠ d := by
      intro z
      subst z
      rw [h] at e
      cases e
      exact nu f
    rw [upd_ne z]
    exact k.fix a o (by rw [upd_ne z]; exact e) f
  · by_cases z : a = d
    · exact ⟨u, by rw [z]; exact upd_same⟩
    · rw [upd_ne z]
      exact k.dom a o (by rw [upd_ne z]; exact e)
theorem i_dnewK {σ : L2.St} {H : Hp} {Q : VK} (h : New H fun p => Q (.ref p) (upd H p (.dK []))) : tDNewK σ H Q := h
def DG3 (a : Addr) (y z : V) (H : Hp) (Q : VK) : Prop := ∃ o, DGet H a y o ∧ Q (o.getD z) H
def DG2 (x : V) (ty tx : TE) (σ : L2.St) (H1 : Hp) (Q : VK) : Prop := ∃ a, x = .ref a ∧ IsD H1 a ∧ ty σ H1 fun y H2 => tx σ H2 fun z H3 => DG3 a y z H3 Q
theorem i_dget2 {td ty tx : TE} {σ : L2.St} {H : Hp} {Q : VK} (h : td σ H fun x H1 => DG2 x ty tx σ H1 Q) : tDGet2 td ty tx σ H Q := h
theorem i_dg2 {a : Addr} {kvs : List (Key × V)} {ty tx : TE} {σ : L2.St} {H : Hp} {Q : VK} (hd : H a = some (.dK kvs)) (h : ty σ H fun y H2 => tx σ H2 fun z H3 => DG3 a y z H3 Q) : DG2 (.ref a) ty tx σ H Q := ⟨a, rfl, .inl ⟨_, Rd.of hd⟩, h⟩
theorem i_dg3 {a : Addr} {kvs : List (Key × V)} {n : Int} {z : V} {H : Hp} {Q : VK} (hd : H a = some (.dK kvs)) (q : Q ((valV kvs (.inl n)).getD z) H) : DG3 a (.int n) z H Q := ⟨_, DGet.k (k := .inl n) hd, q⟩

/-! ### what a world's numbers come to with one more beneath it -/
theorem i_eqNI {K : PySem.W.Frag} {H : Hp} {Q : VK} {n : Int} (h : Q (.bl false) H) : uEq K .non (.int n) H Q := by
  refine .inl ⟨rfl, ?_⟩
  have e : decide (V.non = V.int n) = false := by
    rw [decide_eq_false_iff_not]
    intro z
    cases z
  rw [e]
  exact h
theorem WysAt.no {H : Hp} {n : Int} : ∀ {kvs : List (Key × V)} {qs : List (Int × Int × Int)}, WysAt H kvs qs → n ∉ qs.map (·.1) → valV kvs (.inl n) = none
  | [], [], _, _ => rfl
  | kv :: kvs, q :: qs, ⟨⟨t, e, h⟩, r⟩, m => by
    subst e
    rw [List.map_cons, List.mem_cons] at m
    have e2 : valV ((Sum.inl q.1, V.ref t) :: kvs) (.inl n : Key) = valV kvs (.inl n) := valV_neg fun z => by
      injection z with z
      exact m (.inl z.symm)
    rw [e2]
    exact WysAt.no r fun z => m (.inr z)
  | [], _ :: _, h, _ => h.elim
  | _ :: _, [], h, _ => h.elim
theorem WysAt.unl {H : Hp} {d : Addr} {o : Obj} {u v : HO} (h : H d = some (.frz o u)) : ∀ {kvs : List (Key × V)} {qs : List (Int × Int × Int)}, WysAt H kvs qs → WysAt (upd H d v) kvs qs
  | [], [], _ => trivial
  | _ :: _, _ :: _, ⟨⟨t, e, q⟩, r⟩ => ⟨⟨t, e, by
      have n : t ≠ d := fun z => by
        rw [z, h] at q
        cases q
      rw [upd_ne n]
      exact q⟩, WysAt.unl h r⟩
  | [], _ :: _, h => h.elim
  | _ :: _, [], h => h.elim
theorem take_map_snoc {α β : Type} {f : α → β} {l : List α} {i : Nat} {x : α} (h : l[i]? = some x) : (l.take (i + 1)).map f = (l.take i).map f ++ [f x] := by
  rw [List.take_add_one, h, Option.toList_some, List.map_append]
  rfl
theorem take_not {l : List (Int × Int × Int)} {i : Nat} {q : Int × Int × Int} (h : l[i]? = some q) (nd : (l.map (·.1)).Nodup) : q.1 ∉ (l.take i).map (·.1) := fun m => by
  rw [List.map_take] at m
  obtain ⟨j, hj⟩ := List.getElem?_of_mem m
  have lj := (List.getElem?_eq_some_iff.mp hj).1
  rw [List.length_take] at lj
  rw [List.getElem?_take_of_lt (by omega)] at hj
  have hi : (l.map (·.1))[i]? = some q.1 := by rw [List.getElem?_map, h]; rfl
  have := (List.getElem?_inj (List.getElem?_eq_some_iff.mp hi).1 nd).mp (hi.trans hj.symm)
  omega
theorem tied_keys (qs bs : List (Int × Int × Int)) : (tiedOn qs bs).map (·.1) = qs.map (·.1) := by
  unfold tiedOn
  rw [List.map_map]
  rfl
def sp_tied_on (K : PySem.W.Frag) : Sp := fun vs H Q _ => ∃ (a b : Addr) (ka kb : List (Key × V)) (qa qb : List (Int × Int × Int)), vs = [.ref a, .ref b] ∧ a ≠ b ∧ H a = some (.dK ka) ∧ WysAt H ka qa ∧ H b = some (.dK kb) ∧ WysAt H kb qb ∧ qb ≠ [] ∧ qb.length ≤ 64 ∧ qa.length ≤ 1000 ∧ (qa.map (·.1)).Nodup ∧ (∃ e e', Bnd e qa ∧ Bnd e' qb ∧ e ≤ 1000 ∧ e' ≤ 1000) ∧
  ∀ R kvs H', Fr H R → Kp [] H H' → H' R = some (.dK kvs) → WysAt H' kvs (tiedOn qa qb) → Q (.ref R) H'
theorem sc_tied_on : FnScope ["ways", "beneath", "least", "many_least", "found", "number", "cost", "many", "there", "many_there", "more", "times"] ["ways", "beneath"] (defScope s_tied_on) :=
  ⟨rfl, rfl, rfl, by decide +kernel, rfl, by decide +kernel, by decide +kernel⟩
theorem ok_tied_on {P : Program} {w : World} {K : PySem.W.Frag} {mg : Str → Option Value} {base : Heap} (T : Txt K mg) :
    FnG P w K mg base 2 T.a_tied_on T.d_tied_on ["ways", "beneath"] (sp_tied_on K) := by
  refine okD T.F_tied_on sc_tied_on (fun vs H Q E h => ?_) (fun cdv A outer s H vs Q E hr h => ?_)
  · first
      | (obtain ⟨_, rfl, _⟩ := h; rfl)
      | (obtain ⟨_, _, rfl, _⟩ := h; rfl)
      | (obtain ⟨_, _, _, rfl, _⟩ := h; rfl)
      | (obtain ⟨_, _, _, _, rfl, _⟩ := h; rfl)
      | (obtain ⟨_, _, _, _, _, rfl, _⟩ := h; rfl)
      | (obtain ⟨_, _, _, _, _, _, rfl, _⟩ := h; rfl)
      | (obtain ⟨_, _, _, _, _, _, _, rfl, _⟩ := h; rfl)
      | (obtain ⟨_, _, _, _, _, _, _, _, rfl, _⟩ := h; rfl)
      | (obtain ⟨_, _, _, _, _, _, _, _, _, rfl, _⟩ := h; rfl)
      | (obtain ⟨_, _, _, _, _, _, _, _, _, _, rfl, _⟩ := h; rfl)
      | (obtain ⟨_, _, _, _, _, _, _, _, _, _, _, rfl, _⟩ := h; rfl)
      | (obtain ⟨_, _, _, _, _, _, _, _, _, _, _, _, rfl, _⟩ := h; rfl)
      | (obtain ⟨_, _, _, _, _, _, _, _, _, _, _, _, _, rfl, _⟩ := h; rfl)
      | (obtain ⟨_, _, _, _, _, _, _, _, _, _, _, _, _, _, rfl, _⟩ := h; rfl)
      | (obtain ⟨_, _, _, _, _, _, _, _, _, _, _, _, _, _, _, rfl, _⟩ := h; rfl)
      | (obtain ⟨_, _, _, _, _, _, _, _, _, _, _, _, _, _, _, _, rfl, _⟩ := h; rfl)
      | (obtain ⟨_, _, _, _, _, _, _, _, _, _, _, _, _, _, _, _, _, rfl, _⟩ := h; rfl)
      | (obtain ⟨_, _, _, _, _, _, _, _, _, _, _, _, _, _, _, _, _, _, rfl, _⟩ := h; rfl)
      | (obtain ⟨_, _, _, _, _, _, _, _, _, _, _, _, _, _, _, _, _, _, _, rfl, _⟩ := h; rfl)
  · obtain ⟨a, b, ka, kb, qa, qb, rfl, nab, ha, wa, hb, wb, ne, lb, la, nd, ⟨e, e', bq, bb, le, le'⟩, k⟩ := h
    have lka := wa.len
    have cl_Ties := T.cl_Ties
    have na_Ties_near := T.na_Ties_near
    have na_Ties_own_ever := T.na_Ties_own_ever
    have na_Ties_own_living := T.na_Ties_own_living
    refine ⟨_, (pss_cons (ps_asg (d1 (ok_best_of T) (hr.mono (by decide)) (by rfl) T.m_best_of T.F_best_of.kp T.b_best_of passL (pa_cons (pv 1) pa_nil)) (k_gtup (K := K) 2 rfl rfl (pgs_cons (pg_name (i := 2) sc_tied_on.nd rfl (Or.inl rfl)) (pgs_cons (pg_name (i := 3) sc_tied_on.nd rfl (Or.inl rfl)) pgs_nil))))
      (pss_cons (ps_set (i := 4) sc_tied_on.nd rfl (Or.inl rfl) pe_dnewK)
      (pss_cons (ps_lock (ps_for (passes_of rfl) rfl (pi_items (pv 0)) (k_gtup (K := K) 2 rfl rfl (pgs_cons (pg_name (i := 5) sc_tied_on.nd rfl (Or.inl rfl)) (pgs_cons (k_gtup (K := K) 2 rfl rfl (pgs_cons (pg_name (i := 6) sc_tied_on.nd rfl (Or.inl rfl)) (pgs_cons (pg_name (i := 7) sc_tied_on.nd rfl (Or.inl rfl)) pgs_nil))) pgs_nil)))
      (pss_cons (ps_asg (pe_dget2 (u1 hr.r.units) (pv 1) (pv 5) (pe_tup (pa_cons pe_non (pa_cons pe_int pa_nil))) ⟨rfl, rfl, rfl, rfl⟩) (k_gtup (K := K) 2 rfl rfl (pgs_cons (pg_name (i := 8) sc_tied_on.nd rfl (Or.inl rfl)) (pgs_cons (pg_name (i := 9) sc_tied_on.nd rfl (Or.inl rfl)) pgs_nil))))
      (pss_cons (ps_par (i := 10) (j := 11) (by rfl) sc_tied_on.nd rfl rfl (by decide) rfl rfl (pa_cons (pe_op (k_add (K := K) rfl) (pv 2) pe_int) (pa_cons (pv 3) pa_nil)) (by rfl))
      (pss_cons (ps_if (pt_cmpR (k_eq (K := K) rfl hr.r.units) (pv 8) (pv 2) (nomark _)) (pss_one (ps_par (i := 10) (j := 11) (by rfl) sc_tied_on.nd rfl rfl (by decide) rfl rfl (pa_cons (pv 2) (pa_cons (pv 9) pa_nil)) (by rfl))) (pss_one (ps_if (pt_cmpR (k_eq (K := K) rfl hr.r.units) (pv 8) (pe_op (k_add (K := K) rfl) (pv 2) pe_int) (nomark _)) (pss_one (ps_aug (i := 11) sc_tied_on.nd rfl (Or.inl rfl) (pv 9) ip_add)) pss_nil)))
      (pss_one (ps_asg (pe_tup (pa_cons (pe_op (k_add (K := K) rfl) (pv 6) (pv 10)) (pa_cons (pe_op o_mul (pv 7) (pv 11)) pa_nil))) (pg_sub (pv 4) (pv 5) (set_dict (u1 hr.r.units))))))))))
      (pss_one (ps_ret (pv 4)))))), ?_⟩
    dsimp only [cxOf, st_1, st_2, st_3, st_4, st_5, st_6, List.length_cons, List.length_nil, List.replicate_succ, List.replicate_zero, Nat.reduceAdd, Nat.reduceSub]
    walk_at "gs"
    refine ⟨b, kb, qb, rfl, hb, wb, ne, by omega, fun R H1 fR k1 hR => ?_⟩
    have hsR : SqT K H1 R [.int (bestC qb), .int (bestM qb)] := SqT.of hR
    walk_at "gs"
    refine i_dnewK (i_new fun F fF => ?_)
    have kF := Kp.new (ws := []) (o := HO.dK []) fF
    have hF := fresh_at (o := HO.dK []) fF
    have k2 := Kp.trans k1 kF
    have ha2 := k2.at_ _ _ ha not_nil
    have hb2 := k2.at_ _ _ hb not_nil
    have wa2 := wa.kp k2
    have wb2 := wb.kp k2
    have naF : a ≠ F := fr_ne (k1.at_ _ _ ha not_nil) fF
    have nbF : b ≠ F := fr_ne (k1.at_ _ _ hb not_nil) fF
    obtain ⟨H2, e2⟩ : ∃ H2, H2 = upd H1 F (.dK []) := ⟨_, rfl⟩
    rw [← e2] at hF k2 ha2 hb2 wa2 wb2 ⊢
    walk_at "gs"
    refine i_lockS ha2 fun od => ?_
    refine i_forIt ?_
    walk_at "gs"
    have kL : Kp [a] H2 (upd H2 a (.frz od (.dK ka))) := kp_set ha2 (fun z => z)
    have waL := wa2.kp kL
    have wbL := wb2.kp kL
    have hbL := kL.at_ _ _ hb2 (not_one (Ne.symm nab))
    have hFL := kL.at_ _ _ hF (not_one (Ne.symm naF))
    refine i_eachIt upd_same (fun i σ H' => ∃ o1 o2 o3 o4 o5 o6 o7 : Option V, σ = [some (.ref a), some (.ref b), some (.int (bestC qb)), some (.int (bestM qb)), some (.ref F), o1, o2, o3, o4, o5, o6, o7] ∧ Kp [F] (upd H2 a (.frz od (.dK ka))) H' ∧ ∃ kvs, H' F = some (.dK kvs) ∧ WysAt H' kvs (tiedOn (qa.take i) qb)) ?_ ?_ ?_ ?_
    · exact ⟨_, _, _, _, _, _, _, rfl, Kp.refl, [], hFL, trivial⟩
    · rintro i σ H' ⟨_, _, _, _, _, _, _, _, kk, _⟩
      exact kk.at_ _ _ upd_same (not_one naF)
    · rintro i ky v T σ H' hk ⟨o1, o2, o3, o4, o5, o6, o7, rfl, kk, kvs, hF', wF⟩ fT
      obtain ⟨t, q, hqi, rfl, rfl, ht⟩ := (waL.kp kk).get hk
      have hil := (List.getElem?_eq_some_iff.mp hqi).1
      have kT := Kp.new (ws := []) (o := HO.tup [kV (.inl q.1), .ref t]) fT
      have hT : SqT K (upd H' T (.tup [kV (.inl q.1), .ref t])) T [.int q.1, .ref t] := SqT.of (fresh_at fT)
      have ht3 : SqT K (upd H' T (.tup [kV (.inl q.1), .ref t])) t [.int q.2.1, .int q.2.2] := SqT.of (kT.fix _ _ ht trivial)
      have kk3 := Kp.trans kk kT.wide
      have hF3 := kT.at_ _ _ hF' not_nil
      have wF3 := wF.kp kT
      obtain ⟨H3, e3⟩ : ∃ H3, H3 = upd H' T (.tup [kV (.inl q.1), .ref t]) := ⟨_, rfl⟩
      rw [← e3] at hT ht3 kk3 hF3 wF3 ⊢
      have hb3 := kk3.at_ _ _ hbL (not_one nbF)
      have wb3 := wbL.kp kk3
      have step : tiedOn (qa.take (i + 1)) qb = tiedOn (qa.take i) qb ++ [(q.1, q.2.1 + (there qb q.1).1, q.2.2 * (there qb q.1).2)] := take_map_snoc hqi
      have lF := wF3.len
      have noF : valV kvs (.inl q.1) = none := wF3.no (by rw [tied_keys]; exact take_not hqi nd)
      have lkv : kvs.length ≤ 1000 := by
        rw [lF]
        unfold tiedOn
        rw [List.length_map, List.length_take]
        omega
      obtain ⟨bm1, bm2⟩ := bq q (List.mem_of_getElem? hqi)
      obtain ⟨bt1, bt2⟩ := there_bnd bb lb q.1
      have mok : CMulW q.2.2 (there qb q.1).2 := by
        have g1 := bnd_log (e := e) bm1 (by omega)
        have g2 := bnd_log (e := e') bt1 bt2
        unfold CMulW
        omega
      walk_at "gs"
      refine i_dget2 ?_
      walk_at "gs"
      refine i_dg2 hb3 ?_
      walk_at "gs"
      refine i_new fun W fW => ?_
      have kW := Kp.new (ws := []) (o := HO.tup [.non, .int 0]) fW
      have hW := fresh_at (o := HO.tup [.non, .int 0]) fW
      have hb4 := kW.at_ _ _ hb3 not_nil
      have hF4 := kW.at_ _ _ hF3 not_nil
      have wF4 := wF3.kp kW
      have wb4 := wb3.kp kW
      have kk4 := Kp.trans kk3 kW.wide
      obtain ⟨H4, e4⟩ : ∃ H4, H4 = upd H3 W (.tup [.non, .int 0]) := ⟨_, rfl⟩
      rw [← e4] at hW hb4 hF4 wF4 wb4 kk4 ⊢
      refine i_dg3 hb4 ?_
      -- the end of a turn, alike in all branches
      have fin : ∀ (U : Addr), Fr H4 U → ∀ (o1 o2 o3 o4 o5 o6 o7 : Option V),
          ∃ p1 p2 p3 p4 p5 p6 p7 : Option V, [some (.ref a), some (.ref b), some (.int (bestC qb)), some (.int (bestM qb)), some (.ref F), o1, o2, o3, o4, o5, o6, o7] = [some (.ref a), some (.ref b), some (.int (bestC qb)), some (.int (bestM qb)), some (.ref F), p1, p2, p3, p4, p5, p6, p7] ∧
          Kp [F] (upd H2 a (.frz od (.dK ka))) (upd (upd H4 U (.tup [.int (q.2.1 + (there qb q.1).1), .int (q.2.2 * (there qb q.1).2)])) F (.dK (putK kvs (.inl q.1) (.ref U)))) ∧ ∃ kvs', (upd (upd H4 U (.tup [.int (q.2.1 + (there qb q.1).1), .int (q.2.2 * (there qb q.1).2)])) F (.dK (putK kvs (.inl q.1) (.ref U)))) F = some (.dK kvs') ∧ WysAt (upd (upd H4 U (.tup [.int (q.2.1 + (there qb q.1).1), .int (q.2.2 * (there qb q.1).2)])) F (.dK (putK kvs (.inl q.1) (.ref U)))) kvs' (tiedOn (qa.take (i + 1)) qb) := by
        intro U fU o1 o2 o3 o4 o5 o6 o7
        have kU := Kp.new (ws := []) (o := HO.tup [.int (q.2.1 + (there qb q.1).1), .int (q.2.2 * (there qb q.1).2)]) fU
        have hU := fresh_at (o := HO.tup [.int (q.2.1 + (there qb q.1).1), .int (q.2.2 * (there qb q.1).2)]) fU
        have hF5 := kU.at_ _ _ hF4 not_nil
        have kM : Kp [F] (upd H4 U (.tup [.int (q.2.1 + (there qb q.1).1), .int (q.2.2 * (there qb q.1).2)])) (upd (upd H4 U (.tup [.int (q.2.1 + (there qb q.1).1), .int (q.2.2 * (there qb q.1).2)])) F (.dK (putK kvs (.inl q.1) (.ref U)))) := kp_set hF5 (fun z => z)
        refine ⟨_, _, _, _, _, _, _, rfl, Kp.trans kk4 (Kp.trans kU.wide kM), _, upd_same, ?_⟩
        have wM := wF4.kp (Kp.trans kU.wide kM)
        have hUM := kM.fix _ _ hU trivial
        rw [step]
        rw [putK_new _ noF] at wM hUM ⊢
        exact WysAt.snoc (q := (q.1, q.2.1 + (there qb q.1).1, q.2.2 * (there qb q.1).2)) hUM wM
      rcases wb4.val (n := q.1) with ⟨s, c, m, e1, e5, hs⟩ | ⟨e1, e5⟩
      · rw [e1]
        have hs4 : SqT K H4 s [.int c, .int m] := SqT.of hs
        show gTup _ _ _ (.ref s) _ _ _
        walk_at "gs"
        refine i_dec (fun c1 => ?_) (fun c1 => ?_)
        · have ev : there qb q.1 = (bestC qb, m) := by
            unfold there
            rw [e5]
            show (if c = _ then _ else _) = _
            rw [if_pos c1]
          rw [ev] at fin mok
          walk_at "gs"
          refine i_mulW mok ?_
          walk_at "gs"
          refine i_new fun U fU => ?_
          walk_at "gs"
          refine i_setK (Kp.at_ (Kp.new (ws := []) fU) _ _ hF4 not_nil) (by omega) ?_
          exact fin U fU _ _ _ _ _ _ _
        · walk_at "gs"
          refine i_dec (fun c2 => ?_) (fun c2 => ?_)
          · have ev : there qb q.1 = (bestC qb + 1, bestM qb + m) := by
              unfold there
              rw [e5]
              show (if c = _ then _ else _) = _
              rw [if_neg c1, if_pos c2]
            rw [ev] at fin mok
            walk_at "gs"
            refine i_mulW mok ?_
            walk_at "gs"
            refine i_new fun U fU => ?_
            walk_at "gs"
            refine i_setK (Kp.at_ (Kp.new (ws := []) fU) _ _ hF4 not_nil) (by omega) ?_
            exact fin U fU _ _ _ _ _ _ _
          · have ev : there qb q.1 = (bestC qb + 1, bestM qb) := by
              unfold there
              rw [e5]
              show (if c = _ then _ else _) = _
              rw [if_neg c1, if_neg c2]
            rw [ev] at fin mok
            walk_at "gs"
            refine i_mulW mok ?_
            walk_at "gs"
            refine i_new fun U fU => ?_
            walk_at "gs"
            refine i_setK (Kp.at_ (Kp.new (ws := []) fU) _ _ hF4 not_nil) (by omega) ?_
            exact fin U fU _ _ _ _ _ _ _
      · rw [e1]
        show gTup _ _ _ (.ref W) _ _ _
        have hW4 : SqT K H4 W [.non, .int 0] := SqT.of hW
        have ev : there qb q.1 = (bestC qb + 1, bestM qb) := by
          unfold there
          rw [e5]
        rw [ev] at fin mok
        walk_at "gs"
        refine i_eqNI ?_
        walk_at "gs"
        refine i_eqNI ?_
        walk_at "gs"
        refine i_mulW mok ?_
        walk_at "gs"
        refine i_new fun U fU => ?_
        walk_at "gs"
        refine i_setK (Kp.at_ (Kp.new (ws := []) fU) _ _ hF4 not_nil) (by omega) ?_
        exact fin U fU _ _ _ _ _ _ _
    rintro σ H3 ⟨o1, o2, o3, o4, o5, o6, o7, rfl, kk, kvs, hF', wF⟩
    rw [lka, List.take_length] at wF
    refine ⟨kk.at_ _ _ upd_same (not_one naF), ?_⟩
    have kE : Kp [F] H2 (upd H3 a (.dK ka)) := kp_unlW ha2 (fun z => z) kk fun b hb => by rw [List.mem_singleton.mp hb]; exact naF
    have wE : WysAt (upd H3 a (.dK ka)) kvs (tiedOn qa qb) := wF.unl (kk.at_ _ _ upd_same (not_one naF))
    walk_at "gs"
    exact k F _ _ (k1.free fF) (Kp.dropAll (Kp.trans k2.wide kE) fun b hb => .inr (by rw [List.mem_singleton.mp hb]; exact k1.free fF)) (upd_nn (Ne.symm naF) hF') wE

/-! ### all worlds from one on, each behind the one it is come to by -/
section
variable {D : Int → Int → Int} {ever root : Int} {liv ks : List Int} {nb : Int → List Int}
def srt (l : List Int) : List Int := l.mergeSort fun a b => decide (a ≤ b)
theorem srt_perm (l : List Int) : (srt l).Perm l := List.mergeSort_perm l _
theorem srt_eq {l as : List Int} (h : as.Pairwise (· < ·)) (m : ∀ x, x ∈ as ↔ x ∈ l) (nd : l.Nodup) : as = srt l := by
  have p := srt_perm l
  have s : (srt l).Pairwise (· ≤ ·) := (List.pairwise_mergeSort (le := fun a b : Int => decide (a ≤ b)) (fun a b c h1 h2 => decide_eq_true (Int.le_trans (of_decide_eq_true h1) (of_decide_eq_true h2))) (fun a b => by
    by_cases c : a ≤ b
    · rw [decide_eq_true c]; rfl
    · rw [decide_eq_true (show b ≤ a by omega), Bool.or_true]) l).imp fun h => of_decide_eq_true h
  exact lt_uniq h (strict_of (.refl _) (p.nodup_iff.mpr nd) s) fun x => by rw [m, p.mem_iff]
/-- the worlds beyond w, come to by bk -/
def kidsL (nb : Int → List Int) (w : Int) (bk : Option Int) : List Int := (srt (nb w)).filter fun u => decide (some u ≠ bk)
/-- what is met, of which the first a are gone on from -/
structure Met2 (D : Int → Int → Int) (ks : List Int) (nb : Int → List Int) (root : Int) (a : Nat) (f : List (Int × Option Int)) : Prop where
  nd : (f.map (·.1)).Nodup
  sub : ∀ q ∈ f, q.1 ∈ ks
  zero : f[0]? = some (root, none)
  back : ∀ (i : Nat) (w b : Int), f[i]? = some (w, some b) → w ≠ root ∧ b ∈ nb w ∧ Btw D w b root
  none_ : ∀ (i : Nat) (w : Int), f[i]? = some (w, none) → i = 0
  kids : ∀ (i : Nat) (w : Int) (bk : Option Int), i < a → f[i]? = some (w, bk) → ∀ u ∈ nb w, some u ≠ bk → ∃ j, i < j ∧ f[j]? = some (u, some w)
  par : ∀ (j : Nat) (u w : Int), f[j]? = some (u, some w) → ∃ i bk, i < a ∧ i < j ∧ f[i]? = some (w, bk)
theorem Met2.start (hr : root ∈ ks) : Met2 D ks nb root 0 [(root, none)] := by
  refine ⟨by simp, fun q hq => by rw [List.mem_singleton.mp hq]; exact hr, rfl, fun i w b h => ?_, fun i w h => ?_, fun i w bk h => absurd h (by omega), fun j u w h => ?_⟩
  · cases i with
    | zero => simp at h
    | succ i => simp at h
  · cases i with
    | zero => rfl
    | succ i => simp at h
  · cases j with
    | zero => simp at h
    | succ j => simp at h
theorem Met2.len {a : Nat} {f : List (Int × Option Int)} (m : Met2 D ks nb root a f) : f.length ≤ ks.length := by
  have := sub_len m.nd fun x hx => by
    obtain ⟨q, hq, rfl⟩ := List.mem_map.mp hx
    exact m.sub q hq
  rw [List.length_map] at this
  exact this
theorem nodup_at {α : Type} {f : List (Int × α)} (nd : (f.map (·.1)).Nodup) {i j : Nat} {w : Int} {x y : α} (h1 : f[i]? = some (w, x)) (h2 : f[j]? = some (w, y)) : i = j := by
  have a1 : (f.map (·.1))[i]? = some w := by rw [List.getElem?_map, h1]; rfl
  have a2 : (f.map (·.1))[j]? = some w := by rw [List.getElem?_map, h2]; rfl
  exact (List.getElem?_inj (List.getElem?_eq_some_iff.mp a1).1 nd).mp (a1.trans a2.symm)
theorem Met2.go {a : Nat} {f : List (Int × Option Int)} {w : Int} {bk : Option Int} (m : Met2 D ks nb root a f) (z : Tr3 D ever liv ks nb) (hr : root ∈ ks) (h : f[a]? = some (w, bk)) :
    Met2 D ks nb root (a + 1) (f ++ (kidsL nb w bk).map fun u => (u, some w)) := by
  have hwf : (w, bk) ∈ f := List.mem_of_getElem? h
  have hw : w ∈ ks := m.sub _ hwf
  have ha := (List.getElem?_eq_some_iff.mp h).1
  have mk : ∀ {u}, u ∈ kidsL nb w bk ↔ u ∈ nb w ∧ some u ≠ bk := fun {u} => by
    unfold kidsL
    rw [List.mem_filter, (srt_perm _).mem_iff, decide_eq_true_eq]
  have U := fun {u} (h : u ∈ ks) => z.hU u h
  -- beyond w, away from root
  have far : ∀ u ∈ nb w, some u ≠ bk → u ∈ ks ∧ u ≠ root ∧ w ∈ nb u ∧ Btw D u w root := fun u hu nbk => by
    obtain ⟨u1, u2, _⟩ := (z.rp.adj w hw u).mp hu
    have hs := z.rp.sym z.t z.hU hw hu
    have bt : Btw D u w root := by
      refine z.back hr hw hu ?_
      cases bk with
      | none =>
        have := m.none_ a w h
        subst this
        rw [m.zero] at h
        injection h with h
        exact .inl (congrArg Prod.fst h).symm
      | some b =>
        obtain ⟨_, b2, b3⟩ := m.back a w b h
        exact .inr ⟨b, b2, b3, fun e => nbk (by rw [e])⟩
    refine ⟨u1, fun e => ?_, hs, bt⟩
    rw [e] at bt
    have e0 := z.t.self root (U hr)
    have e1 := z.t.pos (U hr) (U hw) (fun e2 => u2 (by rw [e, e2]))
    have e2 := z.t.nn w root (U hw) (U hr)
    unfold Btw at bt
    omega
  have fresh : ∀ u ∈ nb w, some u ≠ bk → u ∉ f.map (·.1) := fun u hu nbk hm => by
    obtain ⟨q, hq, e⟩ := List.mem_map.mp hm
    obtain ⟨j, hj⟩ := List.getElem?_of_mem hq
    obtain ⟨f1, f2, f3, f4⟩ := far u hu nbk
    obtain ⟨x, y⟩ := q
    have e : x = u := e
    subst e
    cases y with
    | none =>
      have := m.none_ j x hj
      subst this
      rw [m.zero] at hj
      injection hj with hj
      exact f2 (congrArg Prod.fst hj).symm
    | some b =>
      obtain ⟨_, b2, b3⟩ := m.back j x b hj
      have e2 := z.one_way hr f1 b2 f3 b3 f4
      subst e2
      obtain ⟨i, bk2, i1, _, i3⟩ := m.par j x b hj
      have := nodup_at m.nd i3 h
      omega
  have old : ∀ {i : Nat} {q : Int × Option Int}, f[i]? = some q → (f ++ (kidsL nb w bk).map fun u => (u, some w))[i]? = some q := fun {i q} h => by
    rw [List.getElem?_append_left (List.getElem?_eq_some_iff.mp h).1]
    exact h
  have cases_ : ∀ {i : Nat} {x : Int} {y : Option Int}, (f ++ (kidsL nb w bk).map fun u => (u, some w))[i]? = some (x, y) → f[i]? = some (x, y) ∨ (f.length ≤ i ∧ x ∈ kidsL nb w bk ∧ y = some w) := fun {i x y} h => by
    by_cases c : i < f.length
    · rw [List.getElem?_append_left c] at h
      exact .inl h
    · rw [List.getElem?_append_right (by omega)] at h
      have hm := List.mem_of_getElem? h
      obtain ⟨u, hu, e⟩ := List.mem_map.mp hm
      injection e with e1 e2
      exact .inr ⟨by omega, by rw [← e1]; exact hu, e2.symm⟩
  refine ⟨?_, fun q hq => ?_, old m.zero, fun i x b hx => ?_, fun i x hx => ?_, fun i x y hi hx u hu nu => ?_, fun j u x hx => ?_⟩
  · rw [List.map_append, List.map_map]
    refine List.nodup_append.mpr ⟨m.nd, ?_, fun x hx y hy e => ?_⟩
    · have e : ((fun q : Int × Option Int => q.1) ∘ fun u => (u, some w)) = id := rfl
      rw [e, List.map_id]
      unfold kidsL
      exact ((srt_perm _).nodup_iff.mpr (z.rp.nd w hw)).sublist List.filter_sublist
    · obtain ⟨u, hu, e2⟩ := List.mem_map.mp hy
      have e2 : u = y := e2
      obtain ⟨h1, h2⟩ := mk.mp hu
      rw [e, ← e2] at hx
      exact fresh u h1 h2 hx
  · rcases List.mem_append.mp hq with h | h
    · exact m.sub q h
    · obtain ⟨u, hu, rfl⟩ := List.mem_map.mp h
      obtain ⟨h1, h2⟩ := mk.mp hu
      exact (far u h1 h2).1
  · rcases cases_ hx with h1 | ⟨_, h1, h2⟩
    · exact m.back i x b h1
    · obtain ⟨g1, g2⟩ := mk.mp h1
      obtain ⟨f1, f2, f3, f4⟩ := far x g1 g2
      injection h2 with h2
      rw [h2]
      exact ⟨f2, f3, f4⟩
  · rcases cases_ hx with h1 | ⟨_, _, h2⟩
    · exact m.none_ i x h1
    · cases h2
  · have hx' : f[i]? = some (x, y) := by
      rcases cases_ hx with h1 | ⟨h1, _, _⟩
      · exact h1
      · omega
    by_cases c : i < a
    · obtain ⟨j, j1, j2⟩ := m.kids i x y c hx' u hu nu
      exact ⟨j, j1, old j2⟩
    · have e : i = a := by omega
      subst e
      rw [h] at hx'
      injection hx' with hx'
      injection hx' with e1 e2
      subst e1 e2
      obtain ⟨k, hk⟩ := List.getElem?_of_mem (mk.mpr ⟨hu, nu⟩)
      refine ⟨f.length + k, by omega, ?_⟩
      rw [List.getElem?_append_right (by omega), Nat.add_sub_cancel_left, List.getElem?_map, hk]
      rfl
  · rcases cases_ hx with h1 | ⟨h1, _, h2⟩
    · obtain ⟨i, bk2, i1, i2, i3⟩ := m.par j u x h1
      exact ⟨i, bk2, by omega, i2, old i3⟩
    · injection h2 with h2
      subst h2
      exact ⟨a, bk, by omega, by omega, old h⟩
/-- all are met -/
theorem Met2.all {f : List (Int × Option Int)} (m : Met2 D ks nb root f.length f) (z : Tr3 D ever liv ks nb) (hr : root ∈ ks) : ∀ x ∈ ks, x ∈ f.map (·.1) := by
  have U := fun {u} (h : u ∈ ks) => z.hU u h
  have key : ∀ n : Nat, ∀ x ∈ ks, D x root ≤ n → x ∈ f.map (·.1) := by
    intro n
    induction n with
    | zero =>
      intro x hx h
      have e := z.t.eq x root (U hx) (U hr) (by have := z.t.nn x root (U hx) (U hr); omega)
      rw [e]
      exact List.mem_map.mpr ⟨_, List.mem_of_getElem? m.zero, rfl⟩
    | succ n ih =>
      intro x hx h
      by_cases c : x = root
      · rw [c]
        exact List.mem_map.mpr ⟨_, List.mem_of_getElem? m.zero, rfl⟩
      · obtain ⟨y, hy, bt⟩ := z.rp.toward z.t z.hU hx hr c
        obtain ⟨y1, y2, _⟩ := (z.rp.adj x hx y).mp hy
        have p := z.t.pos (U hx) (U y1) (Ne.symm y2)
        have bt0 := bt
        unfold Btw at bt
        have my := ih y y1 (by omega)
        obtain ⟨q, hq, e⟩ := List.mem_map.mp my
        obtain ⟨i, hi⟩ := List.getElem?_of_mem hq
        obtain ⟨v, bk⟩ := q
        have e : v = y := e
        subst e
        have nbk : some x ≠ bk := fun e => by
          subst e
          obtain ⟨_, _, b3⟩ := m.back i v x hi
          unfold Btw at b3
          have s := z.t.sym x v (U hx) (U y1)
          omega
        obtain ⟨j, _, hj⟩ := m.kids i v bk (List.getElem?_eq_some_iff.mp hi).1 hi x (z.rp.sym z.t z.hU hx hy) nbk
        exact List.mem_map.mpr ⟨_, List.mem_of_getElem? hj, rfl⟩
  intro x hx
  have := z.t.nn x root (U hx) (U hr)
  exact key (D x root).toNat x hx (by omega)
end

/-! ### all worlds from one on, walked -/
def oV : Option Int → V
  | none => .non
  | some b => .int b
def OpAt (H : Hp) : List V → List (Int × Option Int) → Prop
  | [], [] => True
  | x :: xs, q :: ps => (∃ t, x = .ref t ∧ H t = some (.tup [.int q.1, oV q.2])) ∧ OpAt H xs ps
  | _, _ => False
theorem OpAt.len {H : Hp} : ∀ {xs : List V} {ps : List (Int × Option Int)}, OpAt H xs ps → xs.length = ps.length
  | [], [], _ => rfl
  | _ :: _, _ :: _, h => by rw [List.length_cons, List.length_cons, OpAt.len h.2]
  | [], _ :: _, h => h.elim
  | _ :: _, [], h => h.elim
theorem OpAt.kp {H H' : Hp} {ws : List Addr} (k : Kp ws H H') : ∀ {xs : List V} {ps : List (Int × Option Int)}, OpAt H xs ps → OpAt H' xs ps
  | [], [], _ => trivial
  | _ :: _, _ :: _, ⟨⟨t, e, h⟩, r⟩ => ⟨⟨t, e, k.fix _ _ h trivial⟩, OpAt.kp k r⟩
  | [], _ :: _, h => h.elim
  | _ :: _, [], h => h.elim
theorem OpAt.snoc {H : Hp} {t : Addr} {q : Int × Option Int} (e : H t = some (.tup [.int q.1, oV q.2])) : ∀ {xs : List V} {ps : List (Int × Option Int)}, OpAt H xs ps → OpAt H (xs ++ [.ref t]) (ps ++ [q])
  | [], [], _ => ⟨⟨t, rfl, e⟩, trivial⟩
  | _ :: _, _ :: _, ⟨a, r⟩ => ⟨a, OpAt.snoc e r⟩
  | [], _ :: _, h => h.elim
  | _ :: _, [], h => h.elim
theorem OpAt.app {H : Hp} {ys : List V} {qs : List (Int × Option Int)} (hy : OpAt H ys qs) : ∀ {xs : List V} {ps : List (Int × Option Int)}, OpAt H xs ps → OpAt H (xs ++ ys) (ps ++ qs)
  | [], [], _ => hy
  | _ :: _, _ :: _, ⟨a, r⟩ => ⟨a, OpAt.app hy r⟩
  | [], _ :: _, h => h.elim
  | _ :: _, [], h => h.elim
theorem OpAt.get {H : Hp} : ∀ {xs : List V} {ps : List (Int × Option Int)} {i : Nat} {q : Int × Option Int}, OpAt H xs ps → ps[i]? = some q → ∃ t, xs[i]? = some (.ref t) ∧ H t = some (.tup [.int q.1, oV q.2])
  | _ :: _, _ :: _, 0, q, ⟨⟨t, e, h⟩, _⟩, ev => by
    rw [List.getElem?_cons_zero] at ev
    injection ev with ev
    subst ev
    exact ⟨t, by rw [List.getElem?_cons_zero, e], h⟩
  | _ :: xs, _ :: ps, i + 1, q, ⟨_, r⟩, ev => by
    rw [List.getElem?_cons_succ] at ev ⊢
    exact OpAt.get r ev
  | [], [], _, _, _, ev => by simp at ev
  | [], _ :: _, _, _, h, _ => h.elim
  | _ :: _, [], _, _, h, _ => h.elim
theorem i_neO {K : PySem.W.Frag} {H : Hp} {Q : VK} {n : Int} {o : Option Int} (h : Q (.bl (decide (some n ≠ o))) H) : uNe K (.int n) (oV o) H Q := by
  cases o with
  | some b =>
    refine i_neI ?_
    have e : (!decide (n = b)) = decide (some n ≠ some b) := by
      by_cases c : n = b
      · rw [c]
        simp
      · simp [c]
    rw [e]
    exact h
  | none =>
    refine .inl ⟨rfl, ?_⟩
    have e : decide (V.int n = V.non) = false := by
      rw [decide_eq_false_iff_not]
      intro z
      cases z
    show Q (.bl (!decide (V.int n = V.non))) H
    rw [e]
    have e2 : decide (some n ≠ (none : Option Int)) = true := decide_eq_true fun z => by cases z
    rw [e2] at h
    exact h
def sp_walked_from (K : PySem.W.Frag) (C : Addr) : Sp := fun vs H Q _ => ∃ (D : Int → Int → Int) (t : Addr) (ps : List Addr) (ever : Int) (liv ks : List Int) (nb : Int → List Int) (root : Int), vs = [.ref t, .int root] ∧ TiesAt C H t ps ever liv ks nb ∧ Tr3 D ever liv ks nb ∧ ever ≤ 200 ∧ root ∈ ks ∧
  ∀ R xs (f : List (Int × Option Int)) H', Fr H R → Kp [] H H' → H' R = some (.lst xs) → OpAt H' xs f → Met2 D ks nb root f.length f → Q (.ref R) H'
theorem sc_walked_from : FnScope ["ties", "root", "found", "at", "world", "back", "other"] ["ties", "root"] (defScope s_walked_from) :=
  ⟨rfl, rfl, rfl, by decide +kernel, rfl, by decide +kernel, by decide +kernel⟩
theorem ok_walked_from {P : Program} {w : World} {K : PySem.W.Frag} {mg : Str → Option Value} {base : Heap} (T : Txt K mg) :
    FnG P w K mg base 4 T.a_walked_from T.d_walked_from ["ties", "root"] (sp_walked_from K T.c_Ties) := by
  refine okD T.F_walked_from sc_walked_from (fun vs H Q E h => ?_) (fun cdv A outer s H vs Q E hr h => ?_)
  · first
      | (obtain ⟨_, rfl, _⟩ := h; rfl)
      | (obtain ⟨_, _, rfl, _⟩ := h; rfl)
      | (obtain ⟨_, _, _, rfl, _⟩ := h; rfl)
      | (obtain ⟨_, _, _, _, rfl, _⟩ := h; rfl)
      | (obtain ⟨_, _, _, _, _, rfl, _⟩ := h; rfl)
      | (obtain ⟨_, _, _, _, _, _, rfl, _⟩ := h; rfl)
      | (obtain ⟨_, _, _, _, _, _, _, rfl, _⟩ := h; rfl)
      | (obtain ⟨_, _, _, _, _, _, _, _, rfl, _⟩ := h; rfl)
      | (obtain ⟨_, _, _, _, _, _, _, _, _, rfl, _⟩ := h; rfl)
      | (obtain ⟨_, _, _, _, _, _, _, _, _, _, rfl, _⟩ := h; rfl)
      | (obtain ⟨_, _, _, _, _, _, _, _, _, _, _, rfl, _⟩ := h; rfl)
      | (obtain ⟨_, _, _, _, _, _, _, _, _, _, _, _, rfl, _⟩ := h; rfl)
      | (obtain ⟨_, _, _, _, _, _, _, _, _, _, _, _, _, rfl, _⟩ := h; rfl)
      | (obtain ⟨_, _, _, _, _, _, _, _, _, _, _, _, _, _, rfl, _⟩ := h; rfl)
      | (obtain ⟨_, _, _, _, _, _, _, _, _, _, _, _, _, _, _, rfl, _⟩ := h; rfl)
      | (obtain ⟨_, _, _, _, _, _, _, _, _, _, _, _, _, _, _, _, rfl, _⟩ := h; rfl)
      | (obtain ⟨_, _, _, _, _, _, _, _, _, _, _, _, _, _, _, _, _, rfl, _⟩ := h; rfl)
      | (obtain ⟨_, _, _, _, _, _, _, _, _, _, _, _, _, _, _, _, _, _, rfl, _⟩ := h; rfl)
      | (obtain ⟨_, _, _, _, _, _, _, _, _, _, _, _, _, _, _, _, _, _, _, rfl, _⟩ := h; rfl)
  · obtain ⟨D, t, ps, ever, liv, ks, nb, root, rfl, x0, z, he, hrt, k⟩ := h
    have klen := z.klen
    obtain ⟨dx0, lv0, nd0, ht⟩ := x0.ins
    have cl_Ties := T.cl_Ties
    have na_Ties_near := T.na_Ties_near
    have na_Ties_own_ever := T.na_Ties_own_ever
    have na_Ties_own_living := T.na_Ties_own_living
    refine ⟨_, (pss_cons (ps_set (i := 2) sc_walked_from.nd rfl (Or.inl rfl) (pe_lst (pa_cons (pe_tup (pa_cons (pv 1) (pa_cons pe_non pa_nil))) pa_nil)))
      (pss_cons (ps_set (i := 3) sc_walked_from.nd rfl (Or.inl rfl) pe_int)
      (pss_cons (ps_while (passes_of rfl) (pt_cmpR op_lt (pv 3) (pe_callB (k_len (K := K) rfl) (by rfl) T.n_len (by decide +kernel) (pa_cons (pv 2) pa_nil)) (nomark _)) (pss_cons (ps_asg (pe_ix (k_ix (K := K) rfl) (pv 2) (pv 3) (fun _ _ => rfl)) (k_gtup (K := K) 2 rfl rfl (pgs_cons (pg_name (i := 4) sc_walked_from.nd rfl (Or.inr rfl)) (pgs_cons (pg_name (i := 5) sc_walked_from.nd rfl (Or.inr rfl)) pgs_nil))))
      (pss_cons (ps_expr (pe_bm PySem.F.plainAttrs_list PySem.F.slot_list_extend PySem.F.type_list_extend mt_extend (pv 2) (pa_cons (pe_lc (own := [("other", 6)]) (g := (gName 6)) rfl sc_walked_from.nd (k_plist (K := K) rfl (dm T.cl_Ties T.me_Ties_tied (ok_Ties_tied T) (hr.mono (by decide)) T.b_Ties_tied passL (pv 0) (pa_cons (pv 4) pa_nil))) (blkOk_by (own := [("other", 6)]) (N := ["ties", "root", "found", "at", "world", "back", "other"]) (sc := defScope s_walked_from) (by decide +kernel)) (fun _ _ _ _ _ => (pg_name (i := 6) sc_walked_from.nd rfl (Or.inl rfl))) (fun _ _ _ _ _ => (pts_one (pt_cmpR (k_ne (K := K) rfl hr.r.units) (pv 6) (pv 5) (nomark _)))) (fun _ _ _ _ _ => (pe_tup (pa_cons (pv 6) (pa_cons (pv 4) pa_nil))))) pa_nil)))
      (pss_one (ps_aug (i := 3) sc_walked_from.nd rfl (Or.inl rfl) pe_int ip_add)))))
      (pss_one (ps_ret (pv 2)))))), ?_⟩
    dsimp only [cxOf, st_1, st_2, st_3, st_4, st_5, st_6, List.length_cons, List.length_nil, List.replicate_succ, List.replicate_zero, Nat.reduceAdd, Nat.reduceSub]
    walk_at "gs"
    refine i_new fun T0 fT => ?_
    walk_at "gs"
    refine i_new fun F fF => ?_
    walk_at "gs"
    have kT := Kp.new (ws := []) (o := HO.tup [.int root, .non]) fT
    have kF := Kp.new (ws := []) (o := HO.lst [.ref T0]) fF
    have hT := fresh_at (o := HO.tup [.int root, .non]) fT
    have fF0 : Fr H F := kT.free fF
    refine i_while (fun m σ H' => ∃ (a : Nat) (o4 o5 o6 : Option V) (f : List (Int × Option Int)) (xs : List V), m = ks.length - a ∧ σ = [some (.ref t), some (.int root), some (.ref F), some (.int (a : Int)), o4, o5, o6] ∧ Kp [] H H' ∧ H' F = some (.lst xs) ∧ OpAt H' xs f ∧ Met2 D ks nb root a f ∧ a ≤ f.length) ks.length ?_ ?_
    · exact ⟨0, _, _, _, [(root, none)], [.ref T0], rfl, rfl, Kp.trans kT kF, upd_same, ⟨⟨T0, rfl, kF.fix _ _ hT trivial⟩, trivial⟩, Met2.start hrt, Nat.zero_le _⟩
    rintro m σ H2 ⟨a, o4, o5, o6, f, xs, rfl, rfl, k2, hF2, op, met, al⟩
    have ml := met.len
    have ol := op.len
    have ht2 := k2.at_ _ _ ht not_nil
    walk_at "gs"
    refine i_dec (fun c => ?_) (fun c => ?_)
    · refine i_loop ?_
      have ca : a < f.length := by omega
      obtain ⟨w, bk, hq⟩ : ∃ w bk, f[a]? = some (w, bk) := ⟨_, _, List.getElem?_eq_getElem ca⟩
      obtain ⟨T1, hx, hT1⟩ := op.get hq
      have hw : w ∈ ks := met.sub _ (List.mem_of_getElem? hq)
      have hst : SqT K H2 T1 [.int w, oV bk] := SqT.of hT1
      walk_at "gs"
      refine i_ixL (SqL.of hF2) (atI_nat hx) ?_
      walk_at "gs"
      refine ⟨D, t, ps, ever, liv, ks, nb, w, rfl, x0.kp0 k2, z, he, hw, fun R fs H3 fR k3 hR pw mem => ?_⟩
      have efs : fs = srt (nb w) := srt_eq pw mem (z.rp.nd w hw)
      subst efs
      have lfs : (srt (nb w)).length ≤ ever.toNat := by
        rw [(srt_perm (nb w)).length_eq]
        exact z.nlen hw
      refine i_elts (SqL.of hR) (fun G i H' => Kp [] H3 H' ∧ ∃ ys, H' G = some (.lst ys) ∧ OpAt H' ys ((((srt (nb w)).take i).filter fun u => decide (some u ≠ bk)).map fun u => (u, some w))) ?_ ?_ ?_ ?_
      · intro G fG
        exact ⟨Kp.new fG, [], upd_same, trivial⟩
      · rintro G i H' fG _ ⟨kk, _⟩
        exact kk.seqL not_nil (SqL.of hR)
      · rintro G i y H' fG hy ⟨kk, ys, hG, oy⟩
        obtain ⟨u, hu, e⟩ := map_get hy
        subst e
        have hil := (List.getElem?_eq_some_iff.mp hu).1
        have step := filter_step (f := fun u : Int => decide (some u ≠ bk)) hu
        have ly := oy.len
        have l1 := List.length_filter_le (fun u : Int => decide (some u ≠ bk)) ((srt (nb w)).take i)
        have l2 : ((srt (nb w)).take i).length ≤ (srt (nb w)).length := by rw [List.length_take]; omega
        rw [List.length_map] at ly
        walk_at "gs"
        refine i_neO ?_
        walk_at "gs"
        refine i_dec (fun c1 => ?_) (fun c1 => ?_)
        · walk_at "gs"
          refine i_new fun U fU => ?_
          have kU := Kp.new (ws := []) (o := HO.tup [.int u, .int w]) fU
          have hU := fresh_at (o := HO.tup [.int u, .int w]) fU
          have hG2 := kU.at_ _ _ hG not_nil
          refine ⟨_, hG2, small_sz (by omega), Kp.upd (Kp.trans kk kU) fG, _, upd_same, ?_⟩
          rw [step, if_pos (decide_eq_true c1), List.map_append]
          exact OpAt.snoc (q := (u, some w)) (by rw [upd_ne (fr_ne hG fU).symm]; exact hU) (OpAt.kp (Kp.mut (ws := [G]) hG2 (fun z => z) (List.mem_singleton.mpr rfl)) (oy.kp kU))
        · refine ⟨kk, ys, hG, ?_⟩
          rw [step, if_neg (by simpa using c1), List.append_nil]
          exact oy
      rintro G H4 fG ⟨k4, ys, hG, oy⟩
      rw [List.length_map, List.take_length] at oy
      have k24 := Kp.trans k3 k4
      have hF4 := k24.at_ _ _ hF2 not_nil
      have lys := oy.len
      have lks : (kidsL nb w bk).length ≤ (srt (nb w)).length := List.length_filter_le _ _
      rw [List.length_map] at lys
      have lys2 : ys.length = (kidsL nb w bk).length := lys
      walk_at "gs"
      refine i_extend hF4 hG (by omega) ?_
      have met2 := met.go z hrt hq
      have e1 : ((a : Int) + 1) = ((a + 1 : Nat) : Int) := by omega
      walk_at "gs"
      rw [e1]
      have nGF : G ≠ F := fun e => by
        rw [e] at fG
        exact absurd (Kp.at_ k3 _ _ hF2 not_nil) (by rw [fG.e]; intro z; cases z)
      have ml2 := met2.len
      refine ⟨_, ?_, a + 1, _, _, _, _, _, rfl, rfl, Kp.upd (Kp.trans k2 k24) fF0, upd_same, ?_, met2, by rw [List.length_append]; omega⟩
      · omega
      · have kM : Kp [F] H4 (upd H4 F (.lst (xs ++ ys))) := Kp.mut hF4 (fun z => z) (List.mem_singleton.mpr rfl)
        exact OpAt.app (oy.kp kM) ((op.kp k24).kp kM)
    · have e : a = f.length := by omega
      subst e
      walk_at "gs"
      exact k F xs f H2 fF0 k2 hF2 op met

/-! ### name = a dict comprehension, on one line -/
section
open PySem.Calls PyProof.Rows PySem.Spec PyProof
variable {X : Cx}
theorem ps_setDc {i : Nat} {nm : PySem.Str} {pn : Pos} {keyE valE tg iter : Expr} {ifs : List Expr} {scope : Scope} {own : List (PySem.Str × Nat)} {pos spos : Pos} {wi : TI} {g : TG} {tt : TT} {tk tv : TE} (calm : X.calm = true) (nodup : X.N.Nodup) (at_ : X.N[i]? = some nm) (loc : X.env.scope.names.lookup nm = some .local)
    (swaps : swapsWith (.DictComp keyE valE [⟨tg, iter, ifs, 0⟩] scope pos) (some (.Name nm pn)) spos.line X.env = pure true) (walked : PI X tg iter wi) (blk : BlkOk X.N X.env.scope scope own)
    (pg : ∀ (t : Shared) (G : Hp) (C : Addr) (cells : List (PySem.Str × Addr)) (ps : List Addr), PG (X.blk t G scope (compEnvC scope cells C X.env) ps) tg g) (pt : ∀ (t : Shared) (G : Hp) (C : Addr) (cells : List (PySem.Str × Addr)) (ps : List Addr), PTs (X.blk t G scope (compEnvC scope cells C X.env) ps) ifs tt)
    (pk : ∀ (t : Shared) (G : Hp) (C : Addr) (cells : List (PySem.Str × Addr)) (ps : List Addr), PE (X.blk t G scope (compEnvC scope cells C X.env) ps) keyE tk)
    (pv : ∀ (t : Shared) (G : Hp) (C : Addr) (cells : List (PySem.Str × Addr)) (ps : List Addr), PE (X.blk t G scope (compEnvC scope cells C X.env) ps) valE tv) (unfolded : ∀ x, foldedSetIterable iter X.env x = pure x := by intro _; rfl) :
    PS X (.Assign [.Name nm pn] (.DictComp keyE valE [⟨tg, iter, ifs, 0⟩] scope pos) spos) (tAsg (tDc wi g tt tk tv (own.map (·.2))) (gName i)) := by
  refine ⟨fun pins s σ H D I q0 => ?_⟩
  rw [exec_Assign_Name_used _ _ _ _ swaps]
  refine wpAny_bind (wpAny_standAt (wpAny_bind ?_))
  show wpAny _ X.A (do let _ ← comprehension (.DictComp keyE valE [⟨tg, iter, ifs, 0⟩] scope pos) scope X.env (firstIterPos [⟨tg, iter, ifs, 0⟩] pos) newDict false (eval iter X.env) (some (assign (.Name nm pn) X.env))) _ _ s
  have q1 : tDc wi g tt tk tv (own.map (·.2)) σ H (fun x H1 => gName i x σ H1 D.nx) := q0
  refine wpAny_bind (thn (dc_core (Qf := fun _ t => SP X pins D .next t) calm nodup I walked blk pg pt pk pv unfolded q1 fun L C t m G Iw q2 named fp => ?_) fun _ t q3 => wpAny_pure (wpAny_pure q3))
  show wpAny _ _ (assign (.Name nm pn) X.env (.ref L)) _ _ _
  refine wpAny_assign_Name (store_ok2 (v := V.ref L) Iw nodup at_ (.inl loc) rfl (fun t2 I2 ⟨a, same, wh⟩ => ?_) (.inr loc))
  obtain ⟨f0, f1, f2, f3, f4, f5⟩ := fp
  have apart : C ≠ a := wh.elim (fun z => by rw [z]; exact f1) fun z e => f4 nm a z e.symm
  exact ⟨m, named.sameBut same apart, fun h3 sb3 => ⟨_, G, I2.turned (t' := t2.toks) (fun b o hb e => (sb3.2 b hb).trans e) f0 f1 f3 f4 f5, q2⟩⟩
theorem sw_trueD {keyE valE : Expr} {gs : List Comprehension} {scope : Scope} {pos pn : Pos} {nm : PySem.Str} {l : Nat} {env : Env} (fn : env.scope.kind = .function) (loc : env.scope.names.lookup nm = some .local) (line : (pn.line == pos.line) = true)
    (other : (scope.names.any fun (n, k) => n == nm && (k == .local || k == .cell)) = false) : swapsWith (.DictComp keyE valE gs scope pos) (some (.Name nm pn)) l env = pure true := by
  have kind : env.kindOf nm = some .local := loc
  have block : env.blockKind = .function := by
    unfold Env.blockKind
    rw [fn]
    rfl
  unfold swapsWith
  simp only [block, kind, other, Expr.pos, line]
  rfl
end

/-! ### the numbers of a world, by all that hangs beneath it -/
def tl (prs : List (Int × Int)) (w : Int) : Option Int := if w ∈ prs.map (·.1) then some (look prs w) else none
theorem i_disp1t {tk tv : TE} {σ : L2.St} {H : Hp} {Q : VK} (q : ∀ p, Fr H p → tk σ (upd H p (.dK [])) fun k H1 => tv σ H1 fun v H2 => DispK p Q k v H2) : tDisp [(tk, tv)] σ H Q := fun p hp => q p ⟨hp⟩
theorem val_in_kN {w : Int} {prs : List (Int × Int)} : (valV (prs.map kN) (.inl w)).isSome = decide (w ∈ prs.map (·.1)) := by
  by_cases c : w ∈ prs.map (·.1)
  · rw [(look_mem c).2, decide_eq_true c]
    rfl
  · rw [valN_none c, decide_eq_false c]
    rfl
def NumsOf (prs : List (Int × Int)) (nums : List Int) : Prop := nums.Pairwise (· < ·) ∧ ∀ n, n ∈ nums ↔ n ∈ prs.map (·.2)
theorem NumsOf.len {prs : List (Int × Int)} {nums : List Int} (h : NumsOf prs nums) : nums.length ≤ prs.length := by
  have := sub_len (h.1.imp fun {a b} lt e => by omega) fun x hx => (h.2 x).mp hx
  rw [List.length_map] at this
  exact this
theorem NumsOf.nd {prs : List (Int × Int)} {nums : List Int} (h : NumsOf prs nums) : nums.Nodup := h.1.imp fun {a b} lt e => by omega
theorem NumsOf.ne {prs : List (Int × Int)} {nums : List Int} (h : NumsOf prs nums) (n : prs ≠ []) : nums ≠ [] := fun e => by
  cases prs with
  | nil => exact n rfl
  | cons p l =>
    have := (h.2 p.2).mpr List.mem_cons_self
    rw [e] at this
    cases this
theorem put_len1 (c : List (Key × V)) (k : Key) (x : V) : (putK c k x).length ≤ c.length + 1 := by
  unfold putK
  split
  · rw [List.length_map]
    omega
  · rw [List.length_append]
    exact Nat.le_refl _
/-- what is found so far: of each world behind place j its numbers -/
def FndAt (H : Hp) (F : Addr) (fk : List (Key × V)) (nb : Int → List Int) (told : Int → Option Int) (nums : List Int) (f : List (Int × Option Int)) (i : Nat) : Prop :=
  ∀ (j : Nat) (w : Int) (bk : Option Int), f[j]? = some (w, bk) → f.length ≤ j + i → ∃ (a : Addr) (kvs : List (Key × V)) (G : Fo), valV fk (.inl w) = some (.ref a) ∧ a ≠ F ∧ H a = some (.dK kvs) ∧ G.Is nb w bk ∧ WysAt H kvs (G.at_ told nums w)
def sp_ways_at (K : PySem.W.Frag) (C : Addr) : Sp := fun vs H Q _ => ∃ (D : Int → Int → Int) (t d : Addr) (ps : List Addr) (ever : Int) (liv ks : List Int) (nb : Int → List Int) (root : Int) (prs : List (Int × Int)), vs = [.ref t, .ref d, .int root] ∧ TiesAt C H t ps ever liv ks nb ∧ Tr3 D ever liv ks nb ∧ ever ≤ 200 ∧ root ∈ ks ∧
  H d = some (.dK (prs.map kN)) ∧ (prs.map (·.1)).Nodup ∧ prs ≠ [] ∧ prs.length < 64 ∧
  ∀ R kvs nums (G : Fo) H', NumsOf prs nums → G.Is nb root none → Kp [] H H' → H' R = some (.dK kvs) → WysAt H' kvs (G.at_ (tl prs) nums root) → Q (.ref R) H'
theorem sc_ways_at : FnScope ["ties", "told", "root", "numbers", "found", "world", "back", "ways", "other", "number"] ["ties", "told", "root"] (defScope s_ways_at) :=
  ⟨rfl, rfl, rfl, by decide +kernel, rfl, by decide +kernel, by decide +kernel⟩
theorem ok_ways_at {P : Program} {w : World} {K : PySem.W.Frag} {mg : Str → Option Value} {base : Heap} (T : Txt K mg) :
    FnG P w K mg base 5 T.a_ways_at T.d_ways_at ["ties", "told", "root"] (sp_ways_at K T.c_Ties) := by
  refine okD T.F_ways_at sc_ways_at (fun vs H Q E h => ?_) (fun cdv A outer s H vs Q E hr h => ?_)
  · first
      | (obtain ⟨_, rfl, _⟩ := h; rfl)
      | (obtain ⟨_, _, rfl, _⟩ := h; rfl)
      | (obtain ⟨_, _, _, rfl, _⟩ := h; rfl)
      | (obtain ⟨_, _, _, _, rfl, _⟩ := h; rfl)
      | (obtain ⟨_, _, _, _, _, rfl, _⟩ := h; rfl)
      | (obtain ⟨_, _, _, _, _, _, rfl, _⟩ := h; rfl)
      | (obtain ⟨_, _, _, _, _, _, _, rfl, _⟩ := h; rfl)
      | (obtain ⟨_, _, _, _, _, _, _, _, rfl, _⟩ := h; rfl)
      | (obtain ⟨_, _, _, _, _, _, _, _, _, rfl, _⟩ := h; rfl)
      | (obtain ⟨_, _, _, _, _, _, _, _, _, _, rfl, _⟩ := h; rfl)
      | (obtain ⟨_, _, _, _, _, _, _, _, _, _, _, rfl, _⟩ := h; rfl)
      | (obtain ⟨_, _, _, _, _, _, _, _, _, _, _, _, rfl, _⟩ := h; rfl)
      | (obtain ⟨_, _, _, _, _, _, _, _, _, _, _, _, _, rfl, _⟩ := h; rfl)
      | (obtain ⟨_, _, _, _, _, _, _, _, _, _, _, _, _, _, rfl, _⟩ := h; rfl)
      | (obtain ⟨_, _, _, _, _, _, _, _, _, _, _, _, _, _, _, rfl, _⟩ := h; rfl)
      | (obtain ⟨_, _, _, _, _, _, _, _, _, _, _, _, _, _, _, _, rfl, _⟩ := h; rfl)
      | (obtain ⟨_, _, _, _, _, _, _, _, _, _, _, _, _, _, _, _, _, rfl, _⟩ := h; rfl)
      | (obtain ⟨_, _, _, _, _, _, _, _, _, _, _, _, _, _, _, _, _, _, rfl, _⟩ := h; rfl)
      | (obtain ⟨_, _, _, _, _, _, _, _, _, _, _, _, _, _, _, _, _, _, _, rfl, _⟩ := h; rfl)
  · obtain ⟨D, t, d, ps, ever, liv, ks, nb, root, prs, rfl, x0, z, he, hrt, hd, ndp, nep, lpr, k⟩ := h
    have klen := z.klen
    obtain ⟨dx0, lv0, nd0, ht⟩ := x0.ins
    have cl_Ties := T.cl_Ties
    have na_Ties_near := T.na_Ties_near
    have na_Ties_own_ever := T.na_Ties_own_ever
    have na_Ties_own_living := T.na_Ties_own_living
    refine ⟨_, (pss_cons (ps_set (i := 3) sc_ways_at.nd rfl (Or.inl rfl) (pe_callB (k_sortedSet (w := w) rfl rfl) (by rfl) T.n_sorted (by decide +kernel) (pa_cons (pe_lock (k_scI (w := w) rfl (own := [("number", 9)]) (g := (gName 9)) (tt := tYes) rfl sc_ways_at.nd (pi_values (pv 1)) (blkOk_by (own := [("number", 9)]) (N := ["ties", "told", "root", "numbers", "found", "world", "back", "ways", "other", "number"]) (sc := defScope s_ways_at) (by decide +kernel)) (fun _ _ _ _ _ => (pg_name (i := 9) sc_ways_at.nd rfl (Or.inl rfl))) (fun _ _ _ _ _ => pts_nil) (fun _ _ _ _ _ => (pv 9)))) pa_nil)))
      (pss_cons (ps_set (i := 4) sc_ways_at.nd rfl (Or.inl rfl) pe_dnewK)
      (pss_cons (ps_for (passes_of rfl) rfl (k_plist (K := K) rfl (k_rev (K := K) rfl (d1 (ok_walked_from T) (hr.mono (by decide)) (by rfl) T.m_walked_from T.F_walked_from.kp T.b_walked_from passL (pa_cons (pv 0) (pa_cons (pv 2) pa_nil))))) (k_gtup (K := K) 2 rfl rfl (pgs_cons (pg_name (i := 5) sc_ways_at.nd rfl (Or.inl rfl)) (pgs_cons (pg_name (i := 6) sc_ways_at.nd rfl (Or.inl rfl)) pgs_nil)))
      (pss_cons (ps_setDc (i := 7) (own := [("number", 9)]) (g := (gName 9)) (tt := tYes) rfl sc_ways_at.nd rfl rfl (sw_trueD rfl rfl rfl (by decide +kernel)) (k_plist (K := K) rfl (pv 3)) (blkOk_by (own := [("number", 9)]) (N := ["ties", "told", "root", "numbers", "found", "world", "back", "ways", "other", "number"]) (sc := defScope s_ways_at) (by decide +kernel)) (fun _ _ _ _ _ => (pg_name (i := 9) sc_ways_at.nd rfl (Or.inl rfl))) (fun _ _ _ _ _ => pts_nil) (fun _ _ _ _ _ => (pv 9)) (fun _ _ _ _ _ => (pe_tup (pa_cons pe_int (pa_cons pe_int pa_nil)))))
      (pss_cons (ps_if (pt_cmp (pc_din (u1 hr.r.units) (pv 5) (pv 1))) (pss_one (ps_set (i := 7) sc_ways_at.nd rfl (Or.inl rfl) (pe_disp (pps_cons (pe_dget (u1 hr.r.units) (pv 1) (pv 5) (fun _ _ => rfl)) (pe_tup (pa_cons pe_int (pa_cons pe_int pa_nil))) pps_nil) (by rfl) (by rfl) (fun z => by cases z) (by decide)))) pss_nil)
      (pss_cons (ps_for (passes_of rfl) rfl (k_plist (K := K) rfl (dm T.cl_Ties T.me_Ties_tied (ok_Ties_tied T) (hr.mono (by decide)) T.b_Ties_tied passL (pv 0) (pa_cons (pv 5) pa_nil))) (pg_name (i := 8) sc_ways_at.nd rfl (Or.inl rfl))
      (pss_one (ps_if (pt_cmpR (k_ne (K := K) rfl hr.r.units) (pv 8) (pv 6) (nomark _)) (pss_one (ps_set (i := 7) sc_ways_at.nd rfl (Or.inl rfl) (d1 (ok_tied_on T) (hr.mono (by decide)) (by rfl) T.m_tied_on T.F_tied_on.kp T.b_tied_on passL (pa_cons (pv 7) (pa_cons (pe_dget (u1 hr.r.units) (pv 4) (pv 8) (fun _ _ => rfl)) pa_nil))))) pss_nil)))
      (pss_one (ps_asg (pv 7) (pg_sub (pv 4) (pv 5) (set_dict (u1 hr.r.units)))))))))
      (pss_one (ps_ret (pe_dget (u1 hr.r.units) (pv 4) (pv 2) (fun _ _ => rfl))))))), ?_⟩
    dsimp only [cxOf, st_1, st_2, st_3, st_4, st_5, st_6, List.length_cons, List.length_nil, List.replicate_succ, List.replicate_zero, Nat.reduceAdd, Nat.reduceSub]
    walk_at "gs"
    refine i_lockE hd fun od => ?_
    refine i_scV ?_
    walk_at "gs"
    refine i_valS upd_same (fun R i H' => Kp [] (upd H d (.frz od (.dK (prs.map kN)))) H' ∧ ∃ c, H' R = some (L2.SetO w R (fun j => decide (j ∈ (prs.take i).map (·.2))) c) ∧ c ≤ i) ?_ ?_ ?_ ?_
    · intro R fR
      refine ⟨Kp.new fR, 0, ?_, Nat.le_refl _⟩
      have e : (fun j : Int => decide (j ∈ (prs.take 0).map (·.2))) = fun _ => false := by
        funext j
        simp
      rw [e]
      exact upd_same
    · rintro R i H' fR ⟨kk, _⟩
      exact kk.at_ _ _ upd_same not_nil
    · rintro R i ky v H' fR hy ⟨kk, c, hR, lc⟩
      obtain ⟨q, hq, e⟩ := map_get hy
      have hil := (List.getElem?_eq_some_iff.mp hq).1
      unfold kN at e
      injection e with e1 e2
      subst e1 e2
      walk_at "gs"
      refine ⟨q.2, _, c, rfl, hR, by unfold scanBound; omega, Kp.upd kk fR, (if decide (q.2 ∈ (prs.take i).map (·.2)) = true then c else c + 1), ?_, ?_⟩
      · have e : (fun j : Int => decide (j ∈ (prs.take (i + 1)).map (·.2))) = fun j => decide (j ∈ (prs.take i).map (·.2)) || decide (j = q.2) := by
          funext j
          rw [take_map_snoc hq, Bool.eq_iff_iff, Bool.or_eq_true, decide_eq_true_eq, decide_eq_true_eq, decide_eq_true_eq, List.mem_append, List.mem_singleton]
        rw [e]
        exact upd_same
      · split <;> omega
    rintro S H1 fS ⟨k1, c, hS, lc⟩
    rw [List.length_map] at hS lc
    rw [List.take_length] at hS
    have nSd : S ≠ d := fun e => by
      rw [e] at fS
      have := fS.e
      rw [upd_same] at this
      cases this
    refine ⟨k1.at_ _ _ upd_same not_nil, ?_⟩
    have kU : Kp [] H (upd H1 d (.dK (prs.map kN))) := kp_unl hd (fun z => z) k1
    have hSU := upd_nn (o := HO.dK (prs.map kN)) nSd hS
    have hdU : (upd H1 d (.dK (prs.map kN))) d = some (.dK (prs.map kN)) := upd_same
    obtain ⟨H2, e2⟩ : ∃ H2, H2 = upd H1 d (.dK (prs.map kN)) := ⟨_, rfl⟩
    rw [← e2] at kU hSU hdU ⊢
    walk_at "gs"
    refine ⟨S, _, c, rfl, hSU, by omega, fun nums N sm mem lm fN => ?_⟩
    have fN : Fr H2 N := ⟨fN⟩
    have nof : NumsOf prs nums := ⟨sm, fun n => by rw [mem, decide_eq_true_eq]⟩
    have lnu := nof.len
    have kN1 := Kp.new (ws := []) (o := HO.lst (nums.map V.int)) fN
    have hN := fresh_at (o := HO.lst (nums.map V.int)) fN
    have k3 := Kp.trans kU kN1
    obtain ⟨H3, e3⟩ : ∃ H3, H3 = upd H2 N (.lst (nums.map V.int)) := ⟨_, rfl⟩
    rw [← e3] at kN1 hN k3 ⊢
    walk_at "gs"
    refine i_dnewK (i_new fun F fF => ?_)
    have kF := Kp.new (ws := []) (o := HO.dK []) fF
    have hF := fresh_at (o := HO.dK []) fF
    have k4 := Kp.trans k3 kF
    have nNF : N ≠ F := fr_ne hN fF
    have fF0 : Fr H F := k3.free fF
    have hN4 := kF.at_ _ _ hN not_nil
    have ndF : d ≠ F := fr_ne (k3.at_ _ _ hd not_nil) fF
    have ntF : t ≠ F := fr_ne (k3.at_ _ _ ht not_nil) fF
    obtain ⟨H4, e4⟩ : ∃ H4, H4 = upd H3 F (.dK []) := ⟨_, rfl⟩
    rw [← e4] at kF hF k4 hN4 ⊢
    walk_at "gs"
    refine ⟨D, t, ps, ever, liv, ks, nb, root, rfl, x0.kp0 k4, z, he, hrt, fun W xs f H5 fW k5 hW op met => ?_⟩
    have hsW : SqL K H5 W xs := SqL.of hW
    have ml := met.len
    have ol := op.len
    walk_at "gs"
    refine i_new fun V1 fV => ?_
    have kV := Kp.new (ws := []) (o := HO.lst xs.reverse) fV
    have hV := fresh_at (o := HO.lst xs.reverse) fV
    have k6 := Kp.trans k4 (Kp.trans k5 kV)
    have k46 := Kp.trans k5 kV
    have hF6 := k46.at_ _ _ hF not_nil
    have hN6 := k46.at_ _ _ hN4 not_nil
    have op6 := op.kp kV
    obtain ⟨H6, e6⟩ : ∃ H6, H6 = upd H5 V1 (.lst xs.reverse) := ⟨_, rfl⟩
    rw [← e6] at hV k6 k46 hF6 hN6 op6 ⊢
    have hd6 := k6.at_ _ _ hd not_nil
    have nVF : V1 ≠ F := fun e => by
      rw [e, hF6] at hV
      cases hV
    walk_at "gs"
    refine i_each (SqL.of hV) (fun i σ H' => ∃ (o5 o6 o7 o8 o9 : Option V) (fk : List (Key × V)), σ = [some (.ref t), some (.ref d), some (.int root), some (.ref N), some (.ref F), o5, o6, o7, o8, o9] ∧
      Kp [F] H6 H' ∧ H' F = some (.dK fk) ∧ fk.length ≤ i ∧ FndAt H' F fk nb (tl prs) nums f i) ?_ ?_ ?_ ?_
    · refine ⟨_, _, _, _, _, [], rfl, Kp.refl, hF6, Nat.le_refl _, fun j w bk hj le => ?_⟩
      have := (List.getElem?_eq_some_iff.mp hj).1
      omega
    · rintro i σ H' _ ⟨_, _, _, _, _, _, _, kk, _⟩
      exact kk.seqL (not_one nVF) (SqL.of hV)
    · rintro i y σ H7 hy ⟨o5, o6, o7, o8, o9, fk, rfl, k7, hF7, lfk, fnd⟩
      have hil := (List.getElem?_eq_some_iff.mp hy).1
      rw [List.length_reverse] at hil
      rw [List.getElem?_reverse hil] at hy
      obtain ⟨j, ej⟩ : ∃ j, j = xs.length - 1 - i := ⟨_, rfl⟩
      rw [← ej] at hy
      have jl : j < f.length := by omega
      obtain ⟨w, bk, hq⟩ : ∃ w bk, f[j]? = some (w, bk) := ⟨_, _, List.getElem?_eq_getElem jl⟩
      have hw : w ∈ ks := met.sub _ (List.mem_of_getElem? hq)
      obtain ⟨T1, hx, hT1⟩ := (op6.kp k7).get hq
      rw [hx] at hy
      injection hy with hy
      subst hy
      have hst : SqT K H7 T1 [.int w, oV bk] := SqT.of hT1
      have hN7 := k7.at_ _ _ hN6 (not_one nNF)
      have hd7 := k7.at_ _ _ hd6 (not_one ndF)
      walk_at "gs"
      refine i_dcL ?_
      walk_at "gs"
      refine i_dlistG (SqL.of hN7) (fun R i H' => Kp [] H7 H' ∧ ∃ kvs, H' R = some (.dK kvs) ∧ WysAt H' kvs ((nums.take i).map fun n => (n, 0, 1))) ?_ ?_ ?_ ?_
      · intro R fR
        exact ⟨Kp.new fR, [], upd_same, trivial⟩
      · rintro R i H' fR _ ⟨kk, _⟩
        exact kk.seqL not_nil (SqL.of hN7)
      · rintro R i y H' fR hy ⟨kk, kvs, hR, wy⟩
        obtain ⟨n, hn, e⟩ := map_get hy
        subst e
        have hil := (List.getElem?_eq_some_iff.mp hn).1
        have lw := wy.len
        rw [List.length_map, List.length_take] at lw
        walk_at "gs"
        refine i_new fun U fU => ?_
        have kU2 := Kp.new (ws := []) (o := HO.tup [.int 0, .int 1]) fU
        have hU := fresh_at (o := HO.tup [.int 0, .int 1]) fU
        have hR2 := kU2.at_ _ _ hR not_nil
        have kM : Kp [R] (upd H' U (.tup [.int 0, .int 1])) (upd (upd H' U (.tup [.int 0, .int 1])) R (.dK (putK kvs (.inl n) (.ref U)))) := kp_set hR2 (fun z => z)
        refine ⟨kvs, .inl n, rfl, hR2, small_sz (by omega), Kp.upd (Kp.trans kk kU2) fR, _, upd_same, ?_⟩
        have no : valV kvs (.inl n) = none := wy.no (by
          rw [List.map_map, show ((fun q : Int × Int × Int => q.1) ∘ fun n : Int => (n, (0 : Int), (1 : Int))) = id from rfl, List.map_id]
          intro m
          obtain ⟨i2, hi2⟩ := List.getElem?_of_mem m
          have l2 := (List.getElem?_eq_some_iff.mp hi2).1
          rw [List.length_take] at l2
          rw [List.getElem?_take_of_lt (by omega)] at hi2
          have := (List.getElem?_inj hil nof.nd).mp (hn.trans hi2.symm)
          omega)
        rw [putK_new _ no] at kM ⊢
        rw [take_map_snoc hn]
        exact WysAt.snoc (q := (n, 0, 1)) (kM.fix _ _ hU trivial) ((wy.kp kU2).kp kM)
      rintro Y H8 fY ⟨k8, kvs, hY, wy⟩
      rw [List.length_map, List.take_length] at wy
      with_reducible refine i_seq ?_
      with_reducible refine i_cutIf (fun σ H' => ∃ (aw : Addr) (kv : List (Key × V)) (o8 o9 : Option V), σ = [some (.ref t), some (.ref d), some (.int root), some (.ref N), some (.ref F), some (.int w), some (oV bk), some (.ref aw), o8, o9] ∧ Kp [] H7 H' ∧ Fr H7 aw ∧ H' aw = some (.dK kv) ∧ WysAt H' kv (ini (tl prs) nums w)) ?_ (fun D' go => ?_)
      · rintro σ H9 ⟨aw, kv, o8, o9, rfl, k9, faw, haw, wya⟩
        have k69 : Kp [F] H6 H9 := Kp.trans k7 k9.wide
        have k09 : Kp [] H H9 := Kp.dropAll (Kp.trans k6.wide k69) fun b hb => .inr (by rw [List.mem_singleton.mp hb]; exact fF0)
        have ht9 := k09.at_ _ _ ht not_nil
        have hF9 := k9.at_ _ _ hF7 not_nil
        have bw : w = root ∧ bk = none ∨ ∃ b, bk = some b ∧ b ∈ nb w ∧ Btw D w b root := by
          cases bk with
          | none =>
            have e0 := met.none_ j w hq
            have hz := met.zero
            rw [← e0, hq] at hz
            injection hz with hz
            injection hz with hz
            exact .inl ⟨hz, rfl⟩
          | some b => exact .inr ⟨b, rfl, (met.back j w b hq).2⟩
        walk_at "gs"
        refine ⟨D, t, ps, ever, liv, ks, nb, w, rfl, x0.kp0 k09, z, he, hw, fun R fs H10 fR k10 hR pw mem2 => ?_⟩
        have efs : fs = srt (nb w) := srt_eq pw mem2 (z.rp.nd w hw)
        subst efs
        have nsr : (srt (nb w)).Nodup := (srt_perm _).nodup_iff.mpr (z.rp.nd w hw)
        have topsub : ∀ {G : Fo} {n : Nat}, G.tops = ((srt (nb w)).take n).filter (fun u => decide (some u ≠ bk)) → G.tops.Nodup ∧ ∀ u ∈ G.tops, u ∈ nb w ∧ some u ≠ bk := fun {G n} e => by
          rw [e]
          refine ⟨(nsr.sublist (List.take_sublist _ _)).filter _, fun u hu => ?_⟩
          rw [List.mem_filter, decide_eq_true_eq] at hu
          exact ⟨(srt_perm _).mem_iff.mp (List.mem_of_mem_take hu.1), hu.2⟩
        refine i_each (SqL.of hR) (fun n σ H' => ∃ (a2 : Addr) (kv2 : List (Key × V)) (G : Fo) (o8 o9 : Option V), σ = [some (.ref t), some (.ref d), some (.int root), some (.ref N), some (.ref F), some (.int w), some (oV bk), some (.ref a2), o8, o9] ∧ Kp [] H10 H' ∧ Fr H7 a2 ∧ H' a2 = some (.dK kv2) ∧
          WysAt H' kv2 (G.go (tl prs) nums (ini (tl prs) nums w)) ∧ G.Deep nb w ∧ G.tops = ((srt (nb w)).take n).filter fun u => decide (some u ≠ bk)) ?_ ?_ ?_ ?_
        · exact ⟨aw, kv, .nil, _, _, rfl, Kp.refl, faw, k10.at_ _ _ haw not_nil, wya.kp k10, trivial, by rw [List.take_zero]; rfl⟩
        · rintro n σ H' _ ⟨_, _, _, _, _, _, kk, _⟩
          exact kk.seqL not_nil (SqL.of hR)
        · rintro n y σ H11 hy ⟨a2, kv2, G, o8, o9, rfl, k11, fa2, ha2, wy2, dp, tp⟩
          obtain ⟨u, hu, e⟩ := map_get hy
          subst e
          have hun : u ∈ nb w := (srt_perm _).mem_iff.mp (List.mem_of_getElem? hu)
          have step := filter_step (f := fun u : Int => decide (some u ≠ bk)) hu
          have k911 := Kp.trans k10 k11
          have hF11 := k911.at_ _ _ hF9 not_nil
          obtain ⟨tn1, tn2⟩ := topsub tp
          walk_at "gs"
          refine i_neO ?_
          walk_at "gs"
          refine i_dec (fun c1 => ?_) (fun c1 => ?_)
          · obtain ⟨j2, lj, hj2⟩ := met.kids j w bk jl hq u hun c1
            have huk := met.sub _ (List.mem_of_getElem? hj2)
            obtain ⟨au, kvu, Gu, hvu, naF, hau, isu, wyu⟩ := fnd j2 u (some w) hj2 (by omega)
            have k711 := Kp.trans k9 k911
            have hau11 := k711.at_ _ _ hau not_nil
            have nea : a2 ≠ au := Ne.symm (fr_ne hau fa2)
            have lG := Fo.len_le z hrt hw dp tn1 tn2 bw
            have lGu := Fo.len_le z hrt (F := Gu) (bk := some w) huk isu.2 isu.1.1 (fun v hv => (isu.1.2 v).mp hv) (.inr ⟨w, rfl, (met.back j2 u w hj2).2⟩)
            have lnv : nums.length ≤ 64 := by omega
            walk_at "gs"
            refine i_dg hF11 hvu ?_
            walk_at "gs"
            refine ⟨a2, au, kv2, kvu, _, _, rfl, nea, ha2, wy2, hau11, wyu.kp k711, fun e => ?_, ?_, ?_, ?_, ⟨_, _, Fo.go_bnd lnv G 0 _ (ini_bnd w), Fo.at_bnd lnv Gu u, by omega, by omega⟩, fun R2 kv3 H12 fR2 k12 hR2 wy3 => ?_⟩
            · have e2 := congrArg List.length e
              rw [show (Gu.at_ (tl prs) nums u).length = (ini (tl prs) nums u).length from Fo.go_len _ _] at e2
              unfold ini at e2
              rw [List.length_map, List.length_nil, List.length_eq_zero_iff] at e2
              exact vals_ne (nof.ne nep) u e2
            · rw [show (Gu.at_ (tl prs) nums u).length = (ini (tl prs) nums u).length from Fo.go_len _ _]
              exact ini_len lnv u
            · rw [Fo.go_len]
              exact Nat.le_trans (ini_len lnv w) (by decide)
            · rw [Fo.go_keys, ini_keys]
              exact vals_nd nof.nd w
            · walk_at "gs"
              refine ⟨R2, kv3, G.snoc u Gu, _, _, rfl, Kp.trans k11 k12, k711.free fR2, hR2, by rw [Fo.go_snoc]; exact wy3, Fo.snoc_deep isu.1.1 (fun x => ?_) isu.2 dp, ?_⟩
              · rw [isu.1.2]
                exact ⟨fun ⟨p1, p2⟩ => ⟨p1, fun e => p2 (by rw [e])⟩, fun ⟨p1, p2⟩ => ⟨p1, fun e => p2 (by injection e)⟩⟩
              · rw [Fo.snoc_tops, tp, step, if_pos (decide_eq_true c1)]
          · refine ⟨a2, kv2, G, _, _, rfl, k11, fa2, ha2, wy2, dp, ?_⟩
            rw [tp, step, if_neg (by simpa using c1), List.append_nil]
        · rintro σ H11 ⟨a2, kv2, G, o8, o9, rfl, k11, fa2, ha2, wy2, dp, tp⟩
          obtain ⟨tn1, tn2⟩ := topsub tp
          rw [List.length_map, List.take_length] at tp
          have k911 := Kp.trans k10 k11
          have hF11 := k911.at_ _ _ hF9 not_nil
          have k611 : Kp [F] H6 H11 := Kp.trans k69 k911.wide
          have isw : G.Is nb w bk := ⟨⟨tn1, fun x => ⟨fun h => tn2 x h, fun ⟨p1, p2⟩ => by
            rw [tp, List.mem_filter, decide_eq_true_eq, (srt_perm _).mem_iff]
            exact ⟨p1, p2⟩⟩⟩, dp⟩
          walk_at "gs"
          refine i_setK hF11 (by omega) ?_
          have kM : Kp [F] H11 (upd H11 F (.dK (putK fk (.inl w) (.ref a2)))) := kp_set hF11 (fun z => z)
          have naF : a2 ≠ F := Ne.symm (fr_ne hF7 fa2)
          have lp := put_len1 fk (.inl w) (.ref a2)
          refine ⟨_, _, _, _, _, _, rfl, Kp.trans k611 kM, upd_same, by omega, fun j' w' bk' hj' le => ?_⟩
          by_cases cj : j' = j
          · rw [cj, hq] at hj'
            injection hj' with hj'
            injection hj' with e1 e2
            subst e1 e2
            exact ⟨a2, kv2, G, by rw [valV_put, if_pos rfl], naF, upd_nn naF ha2, isw, wy2.kp kM⟩
          · obtain ⟨a, kvs', G', v1, v2, v3, v4, v5⟩ := fnd j' w' bk' hj' (by omega)
            have k711 := Kp.trans k9 k911
            refine ⟨a, kvs', G', ?_, v2, upd_nn v2 (k711.at_ _ _ v3 not_nil), v4, (v5.kp k711).kp kM⟩
            rw [valV_put, if_neg fun e => ?_]
            · exact v1
            · injection e with e
              subst e
              exact cj (nodup_at met.nd hj' hq)
      · have hd8 := k8.at_ _ _ hd7 not_nil
        walk_at "gs"
        rw [val_in_kN]
        refine i_dec (fun c => ?_) (fun c => ?_)
        · walk_at "gs"
          refine i_disp1t fun A fA => ?_
          have kA := Kp.new (ws := []) (o := HO.dK []) fA
          have hdA := kA.at_ _ _ hd8 not_nil
          walk_at "gs"
          refine i_dg hdA (look_mem c).2 ?_
          walk_at "gs"
          refine i_new fun U fU => ?_
          have kU := Kp.new (ws := []) (o := HO.tup [.int 0, .int 1]) fU
          have hA := kU.at_ _ _ (fresh_at (o := HO.dK []) fA) not_nil
          refine i_dispK hA ?_
          walk_at "gs"
          have kM : Kp [A] (upd (upd H8 A (.dK [])) U (.tup [.int 0, .int 1])) (upd (upd (upd H8 A (.dK [])) U (.tup [.int 0, .int 1])) A (.dK [(.inl (look prs w), .ref U)])) := kp_set hA (fun z => z)
          refine go _ _ ⟨A, [(.inl (look prs w), .ref U)], _, _, rfl, Kp.upd (Kp.trans (Kp.trans k8 kA) kU) (k8.free fA), k8.free fA, upd_same, ?_⟩
          have ei : ini (tl prs) nums w = [(look prs w, 0, 1)] := by
            unfold ini vals tl
            rw [if_pos c]
            rfl
          rw [ei]
          exact ⟨⟨U, rfl, kM.fix _ _ (fresh_at fU) trivial⟩, trivial⟩
        · walk_at "gs"
          refine go _ _ ⟨Y, kvs, _, _, rfl, k8, fY, hY, ?_⟩
          have ei : ini (tl prs) nums w = nums.map fun n => (n, 0, 1) := by
            unfold ini vals tl
            rw [if_neg c]
          rw [ei]
          exact wy
    rintro σ H7 ⟨o5, o6, o7, o8, o9, fk, rfl, k7, hF7, lfk, fnd⟩
    rw [List.length_reverse] at fnd
    obtain ⟨a, kvs, G, hv, naF, ha, is, wy⟩ := fnd 0 root none met.zero (by omega)
    walk_at "gs"
    refine i_dg hF7 hv ?_
    exact k a kvs nums G H7 nof is (Kp.dropAll (Kp.trans k6.wide k7) fun b hb => .inr (by rw [List.mem_singleton.mp hb]; exact fF0)) ha wy

/-! ### the best numbers of a world, the least cost -/
theorem pw_ltQ_nd {rs : List (Int × Int)} (h : rs.Pairwise ltQ) : rs.Nodup := h.imp fun {a b} l e => by
  subst e
  unfold ltQ at l
  omega
theorem tl_none {prs : List (Int × Int)} {w : Int} (h : w ∈ prs.map (·.1)) : tl prs w ≠ none := by
  unfold tl
  rw [if_pos h]
  intro z
  cases z
theorem NumsOf.tn {prs : List (Int × Int)} {nums : List Int} (h : NumsOf prs nums) : ∀ w n, tl prs w = some n → n ∈ nums := fun w n e => by
  unfold tl at e
  split at e
  · rename_i c
    injection e with e
    rw [h.2, ← e]
    exact List.mem_map.mpr ⟨_, (look_mem c).1, rfl⟩
  · cases e
def sp_best_at (K : PySem.W.Frag) (C : Addr) : Sp := fun vs H Q _ => ∃ (D : Int → Int → Int) (t d : Addr) (ps : List Addr) (ever : Int) (liv ks : List Int) (nb : Int → List Int) (root : Int) (prs : List (Int × Int)), vs = [.ref t, .ref d, .int root] ∧ TiesAt C H t ps ever liv ks nb ∧ Tr3 D ever liv ks nb ∧ ever ≤ 200 ∧ root ∈ ks ∧
  H d = some (.dK (prs.map kN)) ∧ (prs.map (·.1)).Nodup ∧ prs ≠ [] ∧ prs.length < 64 ∧
  ∀ R nums (G : Fo) (ns : List Int) H', NumsOf prs nums → G.Is nb root none → Fr H R → Kp [] H H' → H' R = some (.lst (ns.map V.int)) → ns.Pairwise (· < ·) → (∀ n, n ∈ ns ↔ n ∈ vals (tl prs) nums root ∧ G.low (tl prs) nums n = G.bst (tl prs) nums root) → Q (.ref R) H'
theorem sc_best_at : FnScope ["ties", "told", "root", "ways", "least", "many_least", "number", "cost", "many"] ["ties", "told", "root"] (defScope s_best_at) :=
  ⟨rfl, rfl, rfl, by decide +kernel, rfl, by decide +kernel, by decide +kernel⟩
theorem ok_best_at {P : Program} {w : World} {K : PySem.W.Frag} {mg : Str → Option Value} {base : Heap} (T : Txt K mg) :
    FnG P w K mg base 6 T.a_best_at T.d_best_at ["ties", "told", "root"] (sp_best_at K T.c_Ties) := by
  refine okD T.F_best_at sc_best_at (fun vs H Q E h => ?_) (fun cdv A outer s H vs Q E hr h => ?_)
  · first
      | (obtain ⟨_, rfl, _⟩ := h; rfl)
      | (obtain ⟨_, _, rfl, _⟩ := h; rfl)
      | (obtain ⟨_, _, _, rfl, _⟩ := h; rfl)
      | (obtain ⟨_, _, _, _, rfl, _⟩ := h; rfl)
      | (obtain ⟨_, _, _, _, _, rfl, _⟩ := h; rfl)
      | (obtain ⟨_, _, _, _, _, _, rfl, _⟩ := h; rfl)
      | (obtain ⟨_, _, _, _, _, _, _, rfl, _⟩ := h; rfl)
      | (obtain ⟨_, _, _, _, _, _, _, _, rfl, _⟩ := h; rfl)
      | (obtain ⟨_, _, _, _, _, _, _, _, _, rfl, _⟩ := h; rfl)
      | (obtain ⟨_, _, _, _, _, _, _, _, _, _, rfl, _⟩ := h; rfl)
      | (obtain ⟨_, _, _, _, _, _, _, _, _, _, _, rfl, _⟩ := h; rfl)
      | (obtain ⟨_, _, _, _, _, _, _, _, _, _, _, _, rfl, _⟩ := h; rfl)
      | (obtain ⟨_, _, _, _, _, _, _, _, _, _, _, _, _, rfl, _⟩ := h; rfl)
      | (obtain ⟨_, _, _, _, _, _, _, _, _, _, _, _, _, _, rfl, _⟩ := h; rfl)
      | (obtain ⟨_, _, _, _, _, _, _, _, _, _, _, _, _, _, _, rfl, _⟩ := h; rfl)
      | (obtain ⟨_, _, _, _, _, _, _, _, _, _, _, _, _, _, _, _, rfl, _⟩ := h; rfl)
      | (obtain ⟨_, _, _, _, _, _, _, _, _, _, _, _, _, _, _, _, _, rfl, _⟩ := h; rfl)
      | (obtain ⟨_, _, _, _, _, _, _, _, _, _, _, _, _, _, _, _, _, _, rfl, _⟩ := h; rfl)
      | (obtain ⟨_, _, _, _, _, _, _, _, _, _, _, _, _, _, _, _, _, _, _, rfl, _⟩ := h; rfl)
  · obtain ⟨D, t, d, ps, ever, liv, ks, nb, root, prs, rfl, x0, z, he, hrt, hd, ndp, nep, lpr, k⟩ := h
    have cl_Ties := T.cl_Ties
    have na_Ties_near := T.na_Ties_near
    have na_Ties_own_ever := T.na_Ties_own_ever
    have na_Ties_own_living := T.na_Ties_own_living
    refine ⟨_, (pss_cons (ps_set (i := 3) sc_best_at.nd rfl (Or.inl rfl) (d1 (ok_ways_at T) (hr.mono (by decide)) (by rfl) T.m_ways_at T.F_ways_at.kp T.b_ways_at passL (pa_cons (pv 0) (pa_cons (pv 1) (pa_cons (pv 2) pa_nil)))))
      (pss_cons (ps_asg (d1 (ok_best_of T) (hr.mono (by decide)) (by rfl) T.m_best_of T.F_best_of.kp T.b_best_of passL (pa_cons (pv 3) pa_nil)) (k_gtup (K := K) 2 rfl rfl (pgs_cons (pg_name (i := 4) sc_best_at.nd rfl (Or.inr rfl)) (pgs_cons (pg_name (i := 5) sc_best_at.nd rfl (Or.inl rfl)) pgs_nil))))
      (pss_one (ps_ret (pe_callB (k_sorted (K := K) rfl) (by rfl) T.n_sorted (by decide +kernel) (pa_cons (pe_lock (pe_lc (own := [("number", 6), ("cost", 7), ("many", 8)]) (g := (gTup K 2 (gCons (gName 6) (gCons (gTup K 2 (gCons (gName 7) (gCons (gName 8) gNil))) gNil)))) rfl sc_best_at.nd (pi_items (pv 3)) (blkOk_by (own := [("number", 6), ("cost", 7), ("many", 8)]) (N := ["ties", "told", "root", "ways", "least", "many_least", "number", "cost", "many"]) (sc := defScope s_best_at) (by decide +kernel)) (fun _ _ _ _ _ => (k_gtup (K := K) 2 rfl rfl (pgs_cons (pg_name (i := 6) sc_best_at.nd rfl (Or.inl rfl)) (pgs_cons (k_gtup (K := K) 2 rfl rfl (pgs_cons (pg_name (i := 7) sc_best_at.nd rfl (Or.inl rfl)) (pgs_cons (pg_name (i := 8) sc_best_at.nd rfl (Or.inl rfl)) pgs_nil))) pgs_nil)))) (fun _ _ _ _ _ => (pts_one (pt_cmpR (k_eq (K := K) rfl hr.r.units) (pv 7) (pv 4) (nomark _)))) (fun _ _ _ _ _ => (pv 6)))) pa_nil)))))), ?_⟩
    dsimp only [cxOf, st_1, st_2, st_3, st_4, st_5, st_6, List.length_cons, List.length_nil, List.replicate_succ, List.replicate_zero, Nat.reduceAdd, Nat.reduceSub]
    walk_at "gs"
    refine ⟨D, t, d, ps, ever, liv, ks, nb, root, prs, rfl, x0, z, he, hrt, hd, ndp, nep, lpr, fun W kvs nums G H1 nof is k1 hW wy => ?_⟩
    have lnu := nof.len
    have lat : (G.at_ (tl prs) nums root).length ≤ 64 := by
      rw [show (G.at_ (tl prs) nums root).length = (ini (tl prs) nums root).length from Fo.go_len _ _]
      exact ini_len (by omega) root
    have nat_ : G.at_ (tl prs) nums root ≠ [] := fun e => by
      have e2 := congrArg List.length e
      rw [show (G.at_ (tl prs) nums root).length = (ini (tl prs) nums root).length from Fo.go_len _ _] at e2
      unfold ini at e2
      rw [List.length_map, List.length_nil, List.length_eq_zero_iff] at e2
      exact vals_ne (nof.ne nep) root e2
    have key : (G.at_ (tl prs) nums root).map (·.1) = vals (tl prs) nums root := by
      rw [← ini_keys]
      exact Fo.go_keys _ _
    have lkv := wy.len
    obtain ⟨qs, eqs⟩ : ∃ qs, qs = G.at_ (tl prs) nums root := ⟨_, rfl⟩
    rw [← eqs] at wy lat nat_ key lkv
    walk_at "gs"
    refine ⟨W, kvs, qs, rfl, hW, wy, nat_, by omega, fun R H2 fR k2 hR => ?_⟩
    have hsR : SqT K H2 R [.int (bestC qs), .int (bestM qs)] := SqT.of hR
    have hW2 := k2.at_ _ _ hW not_nil
    have wy2 := wy.kp k2
    walk_at "gs"
    refine i_lockE hW2 fun od => ?_
    refine i_lcIt ?_
    walk_at "gs"
    have kF : Kp [W] H2 (upd H2 W (.frz od (.dK kvs))) := kp_set hW2 (fun z => z)
    have wyF := wy2.kp kF
    refine i_pairG upd_same (fun R i H' => Kp [] (upd H2 W (.frz od (.dK kvs))) H' ∧ H' R = some (.lst ((((qs.take i).filter fun q => decide (q.2.1 = bestC qs)).map fun q => q.1).map V.int))) ?_ ?_ ?_ ?_
    · intro R fR
      exact ⟨Kp.new fR, upd_same⟩
    · rintro R i H' fR ⟨kk, _⟩
      exact kk.at_ _ _ upd_same not_nil
    · rintro R i ky v U H' fR hy ⟨kk, hR'⟩ fU
      obtain ⟨u, q, hqi, rfl, rfl, hu⟩ := (wyF.kp kk).get hy
      have kU := Kp.new (ws := []) (o := HO.tup [kV (.inl q.1), .ref u]) fU
      have hU : SqT K (upd H' U (.tup [kV (.inl q.1), .ref u])) U [.int q.1, .ref u] := SqT.of (fresh_at fU)
      have hu3 : SqT K (upd H' U (.tup [kV (.inl q.1), .ref u])) u [.int q.2.1, .int q.2.2] := SqT.of (kU.fix _ _ hu trivial)
      have hR3 := kU.at_ _ _ hR' not_nil
      have kk3 := Kp.trans kk kU
      have step := filter_step (f := fun q : Int × Int × Int => decide (q.2.1 = bestC qs)) hqi
      have l1 := List.length_filter_le (fun q : Wy => decide (q.2.1 = bestC qs)) (qs.take i)
      have l2 : (qs.take i).length ≤ qs.length := by rw [List.length_take]; omega
      obtain ⟨H3, e3⟩ : ∃ H3, H3 = upd H' U (.tup [kV (.inl q.1), .ref u]) := ⟨_, rfl⟩
      rw [← e3] at hU hu3 hR3 kk3 ⊢
      walk_at "gs"
      refine i_dec (fun c => ?_) (fun c => ?_)
      · walk_at "gs"
        refine ⟨_, hR3, small_sz (by rw [List.length_map, List.length_map]; omega), Kp.upd kk3 fR, ?_⟩
        rw [step, if_pos (decide_eq_true c), List.map_append, List.map_append]
        exact upd_same
      · refine ⟨kk3, ?_⟩
        rw [step, if_neg (by simpa using c), List.append_nil]
        exact hR3
    rintro L H3 fL ⟨k3, hL⟩
    rw [lkv, List.take_length] at hL
    have nLW : L ≠ W := fun e => by
      rw [e] at fL
      have := fL.e
      rw [upd_same] at this
      cases this
    refine ⟨k3.at_ _ _ upd_same not_nil, ?_⟩
    have k4 : Kp [] H2 (upd H3 W (.dK kvs)) := kp_unl hW2 (fun z => z) k3
    have hL4 := upd_nn (o := HO.dK kvs) nLW hL
    walk_at "gs"
    refine i_sorted (SqL.of hL4) fun ns S pm pw fS => ?_
    have ndq : (qs.map (·.1)).Nodup := by
      rw [key]
      exact vals_nd nof.nd root
    have ndf : (((qs.filter fun q => decide (q.2.1 = bestC qs)).map fun q => q.1)).Nodup := ndq.sublist (List.filter_sublist.map _)
    have k12 := Kp.trans k1 (Kp.trans k2 k4)
    refine k S nums G ns _ nof is (k12.free fS) (Kp.trans k12 (Kp.new fS)) upd_same (strict_of pm ndf pw) fun n => ?_
    rw [pm.mem_iff, List.mem_map]
    have eb : bestC qs = G.bst (tl prs) nums root := by
      rw [eqs, Fo.bestC_at]
    have ea : qs = (vals (tl prs) nums root).map fun n => (n, G.low (tl prs) nums n, G.mny (tl prs) nums n) := by
      rw [eqs, Fo.at_eq]
    rw [eb, ea]
    constructor
    · rintro ⟨q, hq, rfl⟩
      rw [List.mem_filter, List.mem_map, decide_eq_true_eq] at hq
      obtain ⟨⟨n, hn, rfl⟩, h2⟩ := hq
      exact ⟨hn, h2⟩
    · rintro ⟨h1, h2⟩
      exact ⟨_, List.mem_filter.mpr ⟨List.mem_map.mpr ⟨n, h1, rfl⟩, decide_eq_true h2⟩, rfl⟩
theorem NumsOf.uniq {prs : List (Int × Int)} {nums nums' : List Int} (h : NumsOf prs nums) (h' : NumsOf prs nums') : nums = nums' := lt_uniq h.1 h'.1 fun x => by rw [h.2, h'.2]
theorem Fo.Is.lst {D : Int → Int → Int} {ever root : Int} {liv ks : List Int} {nb : Int → List Int} {prs : List (Int × Int)} {nums : List Int} {G : Fo} (is : G.Is nb root none) (z : Tr3 D ever liv ks nb) (hrt : root ∈ ks) (hl : ∀ x ∈ liv, x ∈ prs.map (·.1)) (ne : prs ≠ []) (nof : NumsOf prs nums) {rs : List (Int × Int)} (ro : RowsOf ks nb rs) :
    Lst (tl prs) nums ks rs (G.bst (tl prs) nums root) := is.bst z hrt (fun x hx => tl_none (hl x hx)) nof.tn (nof.ne ne) (pw_ltQ_nd ro.1) ro.2

/-! ### sorted(d), d a dict of numbers -/
section
open PySem.Calls PyProof.Rows
variable {X : Cx}
/-- sorted(d), d a dict of numbers -/
def rSortedD : List V → Hp → VK → Prop := fun xs H Q => ∃ (a : Addr) (kvs : List (Key × V)) (ns : List Int), xs = [.ref a] ∧ Rd H a (.dK kvs) ∧ (kvs.map fun kv => kV kv.1) = ns.map V.int ∧
  ∀ (ns' : List Int) (p : Addr), ns'.Perm ns → ns'.Pairwise (· ≤ ·) → H p = none → Q (.ref p) (upd H p (.lst (ns'.map V.int)))
theorem k_sortedD (hcalm : X.calm = true) : CallR X (.builtin "sorted") rSortedD := by
  intro pins s σ H xs us Q I r q
  obtain ⟨a, kvs, ns, rfl, hd, en, q⟩ := q
  obtain ⟨u, rfl, rx⟩ := vals1 r
  cases rx
  obtain ⟨z, lo, vs, rel, dd⟩ := dk_rd I.hok hd
  obtain ⟨ep, hat⟩ := dd.dictAt
  have ek : (kvs.map fun kv => kV kv.1) = vs.map fun p => kV p.1 := by
    have e := congrArg (List.map kV) rel.keys
    rw [List.map_map, List.map_map] at e
    exact e
  refine call_function_entry kind_sorted plain_sorted entry_sorted (args_sorted1 _) ?_
  unfold Builtin.«sorted»
  refine wpAny_bind (m := checkCount "sorted" 1 1 _) (wpAny_pure ?_)
  refine wpAny_bind (PySem.W.kdu_collect (A := X.A.in1) (PySem.W.kdl_dict (knd := mixKind X.prog X.w) (kvs := vs) (ep := ep) lo) (I.ok.hd hcalm) hat (by rw [← rel.length]; exact z) fun h' tk acc hk hacc => ?_)
  have hv : Vals (vs.map fun p => kV p.1) acc.toList := keys_at (by rw [Array.length_toList]; exact hacc.1) fun j v e => hacc.2 j v (by rw [← Array.getElem?_toList]; exact e)
  rw [← ek, en] at hv
  have hz : ns.length ≤ sizeLine := by
    have e := congrArg List.length en
    rw [List.length_map, List.length_map] at e
    omega
  have hl : acc.toList.length = ns.length := by rw [← hv.length, List.length_map]
  refine wpAny_bind (wpAny_newList ?_ (by rw [hl]; exact hz))
  have I0 : Inv X pins σ H { s with heap := h', toks := tk } := I.kept hk
  obtain ⟨D, hD⟩ : ∃ D, D = h'.objs.size := ⟨_, rfl⟩
  have I1 : Inv X pins σ (upd H h'.objs.size (.lst (ns.map V.int))) { s with heap := h'.push { cls := .type "list", data := .seq acc.toList.toArray }, toks := tk } :=
    I0.lnew (its := acc.toList) (t' := tk) hv (by rw [List.length_map]; exact hz)
  have fD : H h'.objs.size = none := I0.fresh
  rw [← hD] at I1 fD ⊢
  have hi := hv.ints
  obtain ⟨zl, its, n, rv, hob⟩ := I1.hok D _ upd_same
  have hi2 := rv.ints
  refine wpAny_bind (wpAny_holding (wpAny_call_entry PyProof.Rows.slot_list_sort ⟨_, hob, rfl⟩ PyProof.Rows.entry_list_sort
    (SrtO.list_sort_ord SrtO.swo_int hob (by rw [← rv.length]; exact zl) (fun h2 => SrtO.ints_sortable hi2 h2) fun out h1 h2 => ⟨.none, rfl, ?_⟩) (PyProof.Rows.args_list_sort _)))
  obtain ⟨k1, k2, k3⟩ := SrtO.ints_out hi2 h1 h2
  obtain ⟨ep2, he'⟩ := PyProof.Rows.sortedHeap_at (vs := its) (out := out.toArray) hob
  have hlen : ((out.map SrtO.iv).map V.int).length ≤ sizeLine := by
    rw [List.length_map, k2.length_eq]
    exact hz
  have I2 := I1.write (x := D) (e := D) (o := .lst ((out.map SrtO.iv).map V.int)) (t' := tk) (by rw [upd_same]; trivial) (.inl rfl) (fun b u hb hu => by
    rw [PyProof.Rows.sortedHeap_old hb (Heap.lt_size hu)]; exact hu) ⟨_, he'⟩ ⟨hlen, out, ep2, vals_of_ints k1, he'⟩
  rw [upd_upd] at I2
  exact wpAny_pure ⟨_, rfl, .ref D, _, I2, rfl, q _ _ k2 k3 fD⟩
end
theorem keys_kN (prs : List (Int × Int)) : ((prs.map kN).map fun kv => kV kv.1) = (prs.map (·.1)).map V.int := by
  rw [List.map_map, List.map_map]
  rfl
theorem i_sortedN {H : Hp} {Q : VK} {a : Addr} {prs : List (Int × Int)} (h : H a = some (.dK (prs.map kN))) (q : ∀ (ns' : List Int) (p : Addr), ns'.Perm (prs.map (·.1)) → ns'.Pairwise (· ≤ ·) → Fr H p → Q (.ref p) (upd H p (.lst (ns'.map V.int)))) : rSortedD [.ref a] H Q :=
  ⟨a, _, _, rfl, Rd.of h, keys_kN prs, fun ns' p h1 h2 h3 => q ns' p h1 h2 ⟨h3⟩⟩

/-! ### the keeping -/
theorem look_app {x : Int} {pr q : List (Int × Int)} (h : x ∈ pr.map (·.1)) : look (pr ++ q) x = look pr x := by
  unfold look
  rw [List.find?_append]
  cases e : pr.find? (fun q => decide (q.1 = x)) with
  | some y => rfl
  | none =>
    obtain ⟨p, hp, ep⟩ := List.mem_map.mp h
    have := List.find?_eq_none.mp e p hp
    simp only [decide_eq_true_eq] at this
    exact absurd ep this
theorem look_new {w n : Int} {pr : List (Int × Int)} (h : w ∉ pr.map (·.1)) : look (pr ++ [(w, n)]) w = n := by
  unfold look
  rw [List.find?_append, List.find?_eq_none.mpr fun q hq => ?_, Option.none_or]
  · rw [List.find?_cons, decide_eq_true rfl]
    rfl
  · simp only [decide_eq_true_eq]
    intro e
    exact h (List.mem_map.mpr ⟨q, hq, e⟩)
theorem tl_app {w n : Int} {pr : List (Int × Int)} (h : w ∉ pr.map (·.1)) : tl (pr ++ [(w, n)]) = tell1 (tl pr) w n := by
  funext x
  show (if x ∈ (pr ++ [(w, n)]).map (·.1) then some (look (pr ++ [(w, n)]) x) else none) = if x = w then some n else if x ∈ pr.map (·.1) then some (look pr x) else none
  have e : x ∈ (pr ++ [(w, n)]).map (·.1) ↔ x ∈ pr.map (·.1) ∨ x = w := by
    rw [List.map_append, List.mem_append, List.map_cons, List.map_nil, List.mem_singleton]
  by_cases c : x = w
  · subst c
    rw [if_pos (e.mpr (.inr rfl)), look_new h, if_pos rfl]
  · rw [if_neg c]
    by_cases m : x ∈ pr.map (·.1)
    · rw [if_pos (e.mpr (.inl m)), if_pos m, look_app m]
    · rw [if_neg m, if_neg fun z => (e.mp z).elim m c]
theorem put_kN {w n : Int} {pr : List (Int × Int)} (h : w ∉ pr.map (·.1)) : putK (pr.map kN) (.inl w) (.int n) = (pr ++ [(w, n)]).map kN := by
  rw [putK_new _ (valN_none h), List.map_append]
  rfl
/-- each number that was chosen, the ones ahead of it given: of those of least cost the least -/
structure KpOf (nums ks : List Int) (nb : Int → List Int) (l : Nat) (pr : List (Int × Int)) : Prop where
  num : ∀ (i : Nat) (w n : Int), l ≤ i → pr[i]? = some (w, n) → n ∈ nums
  same : ∀ (i : Nat) (w n : Int), l ≤ i → pr[i]? = some (w, n) → ∀ rs, RowsOf ks nb rs → ∀ m, Lst (tl (pr.take i)) nums ks rs m → Lst (tl (pr.take (i + 1))) nums ks rs m
  least : ∀ (i : Nat) (w n : Int), l ≤ i → pr[i]? = some (w, n) → ∀ n' ∈ nums, n' < n → ∀ rs, RowsOf ks nb rs → ∀ m, Lst (tl (pr.take i)) nums ks rs m → ¬ Lst (tell1 (tl (pr.take i)) w n') nums ks rs m
theorem KpOf.start {nums ks : List Int} {nb : Int → List Int} {pr : List (Int × Int)} : KpOf nums ks nb pr.length pr :=
  ⟨fun i w n h e => absurd (List.getElem?_eq_some_iff.mp e).1 (by omega), fun i w n h e => absurd (List.getElem?_eq_some_iff.mp e).1 (by omega), fun i w n h e => absurd (List.getElem?_eq_some_iff.mp e).1 (by omega)⟩
theorem KpOf.go {nums ks : List Int} {nb : Int → List Int} {l : Nat} {pr : List (Int × Int)} {w n : Int} (k : KpOf nums ks nb l pr) (nw : w ∉ pr.map (·.1)) (h1 : n ∈ nums) (h2 : ∀ rs, RowsOf ks nb rs → ∀ m, Lst (tl pr) nums ks rs m → Lst (tell1 (tl pr) w n) nums ks rs m)
    (h3 : ∀ n' ∈ nums, n' < n → ∀ rs, RowsOf ks nb rs → ∀ m, Lst (tl pr) nums ks rs m → ¬ Lst (tell1 (tl pr) w n') nums ks rs m) : KpOf nums ks nb l (pr ++ [(w, n)]) := by
  have old : ∀ {i : Nat} {q : Int × Int}, (pr ++ [(w, n)])[i]? = some q → i < pr.length ∧ pr[i]? = some q ∨ i = pr.length ∧ q = (w, n) := fun {i q} e => by
    by_cases c : i < pr.length
    · rw [List.getElem?_append_left c] at e
      exact .inl ⟨c, e⟩
    · rw [List.getElem?_append_right (by omega)] at e
      have := (List.getElem?_eq_some_iff.mp e).1
      rw [List.length_singleton] at this
      have e0 : i - pr.length = 0 := by omega
      rw [e0] at e
      injection e with e
      exact .inr ⟨by omega, e.symm⟩
  have tk : ∀ {i : Nat}, i ≤ pr.length → (pr ++ [(w, n)]).take i = pr.take i := fun {i} c => List.take_append_of_le_length c
  have full : (pr ++ [(w, n)]).take (pr.length + 1) = pr ++ [(w, n)] := List.take_of_length_le (by simp)
  refine ⟨fun i v m h e => ?_, fun i v m h e rs ro c z => ?_, fun i v m h e n' hn' lt rs ro c z => ?_⟩
  · rcases old e with ⟨_, e⟩ | ⟨_, e⟩
    · exact k.num i v m h e
    · injection e with e1 e2
      rw [e2]
      exact h1
  · rcases old e with ⟨c1, e⟩ | ⟨c1, e⟩
    · rw [tk (by omega)] at z ⊢
      exact k.same i v m h e rs ro c z
    · rw [c1, tk (Nat.le_refl _), List.take_length] at z
      rw [c1, full, tl_app nw]
      exact h2 rs ro c z
  · rcases old e with ⟨c1, e⟩ | ⟨c1, e⟩
    · rw [tk (by omega)] at z ⊢
      exact k.least i v m h e n' hn' lt rs ro c z
    · injection e with e1 e2
      subst e1 e2
      rw [c1, tk (Nat.le_refl _), List.take_length] at z ⊢
      exact h3 n' hn' lt rs ro c z
def sp_the_keeping (K : PySem.W.Frag) (C : Addr) : Sp := fun vs H Q _ => ∃ (D : Int → Int → Int) (t d : Addr) (ps : List Addr) (ever : Int) (liv ks : List Int) (nb : Int → List Int) (prs : List (Int × Int)), vs = [.ref t, .ref d] ∧ TiesAt C H t ps ever liv ks nb ∧ Tr3 D ever liv ks nb ∧ ever < 64 ∧
  H d = some (.dK (prs.map kN)) ∧ (prs.map (·.1)).Nodup ∧ (∀ x ∈ liv, x ∈ prs.map (·.1)) ∧
  ∀ R (fs : List Int) (pr out : List (Int × Int)) H', Fr H R → Kp [] H H' → H' R = some (.dK (out.map kN)) → FreeOf liv ks fs → pr.map (·.1) = liv ++ fs → (∀ x ∈ liv, look pr x = look prs x) → (liv ≠ [] → ∀ nums, NumsOf (liv.map fun x => (x, look prs x)) nums → NumsOf pr nums ∧ KpOf nums ks nb liv.length pr) →
    (out.map (·.1)).Pairwise (· < ·) → (∀ x, x ∈ out.map (·.1) ↔ x ∈ ks) → (∀ x ∈ ks, look out x = look pr x) → Q (.ref R) H'
theorem sc_the_keeping : FnScope ["ties", "numbers", "found", "world"] ["ties", "numbers"] (defScope s_the_keeping) :=
  ⟨rfl, rfl, rfl, by decide +kernel, rfl, by decide +kernel, by decide +kernel⟩
theorem ok_the_keeping {P : Program} {w : World} {K : PySem.W.Frag} {mg : Str → Option Value} {base : Heap} (T : Txt K mg) :
    FnG P w K mg base 7 T.a_the_keeping T.d_the_keeping ["ties", "numbers"] (sp_the_keeping K T.c_Ties) := by
  refine okD T.F_the_keeping sc_the_keeping (fun vs H Q E h => ?_) (fun cdv A outer s H vs Q E hr h => ?_)
  · first
      | (obtain ⟨_, rfl, _⟩ := h; rfl)
      | (obtain ⟨_, _, rfl, _⟩ := h; rfl)
      | (obtain ⟨_, _, _, rfl, _⟩ := h; rfl)
      | (obtain ⟨_, _, _, _, rfl, _⟩ := h; rfl)
      | (obtain ⟨_, _, _, _, _, rfl, _⟩ := h; rfl)
      | (obtain ⟨_, _, _, _, _, _, rfl, _⟩ := h; rfl)
      | (obtain ⟨_, _, _, _, _, _, _, rfl, _⟩ := h; rfl)
      | (obtain ⟨_, _, _, _, _, _, _, _, rfl, _⟩ := h; rfl)
      | (obtain ⟨_, _, _, _, _, _, _, _, _, rfl, _⟩ := h; rfl)
      | (obtain ⟨_, _, _, _, _, _, _, _, _, _, rfl, _⟩ := h; rfl)
      | (obtain ⟨_, _, _, _, _, _, _, _, _, _, _, rfl, _⟩ := h; rfl)
      | (obtain ⟨_, _, _, _, _, _, _, _, _, _, _, _, rfl, _⟩ := h; rfl)
      | (obtain ⟨_, _, _, _, _, _, _, _, _, _, _, _, _, rfl, _⟩ := h; rfl)
      | (obtain ⟨_, _, _, _, _, _, _, _, _, _, _, _, _, _, rfl, _⟩ := h; rfl)
      | (obtain ⟨_, _, _, _, _, _, _, _, _, _, _, _, _, _, _, rfl, _⟩ := h; rfl)
      | (obtain ⟨_, _, _, _, _, _, _, _, _, _, _, _, _, _, _, _, rfl, _⟩ := h; rfl)
      | (obtain ⟨_, _, _, _, _, _, _, _, _, _, _, _, _, _, _, _, _, rfl, _⟩ := h; rfl)
      | (obtain ⟨_, _, _, _, _, _, _, _, _, _, _, _, _, _, _, _, _, _, rfl, _⟩ := h; rfl)
      | (obtain ⟨_, _, _, _, _, _, _, _, _, _, _, _, _, _, _, _, _, _, _, rfl, _⟩ := h; rfl)
  · obtain ⟨D, t, d, ps, ever, liv, ks, nb, prs, rfl, x0, z, he, hd, ndp, hl, k⟩ := h
    obtain ⟨dx0, lv0, nd0, ht⟩ := x0.ins
    have klen := z.klen
    have llen := z.llen
    have cl_Ties := T.cl_Ties
    have na_Ties_near := T.na_Ties_near
    have na_Ties_own_ever := T.na_Ties_own_ever
    have na_Ties_own_living := T.na_Ties_own_living
    refine ⟨_, (pss_cons (ps_set (i := 2) sc_the_keeping.nd rfl (Or.inr rfl) (pe_dc (own := [("world", 3)]) (g := (gName 3)) (tt := tYes) rfl sc_the_keeping.nd (k_plist (K := K) rfl (dm0 T.cl_Ties T.me_Ties_living (ok_Ties_living T) (hr.mono (by decide)) T.b_Ties_living passL (pv 0))) (blkOk_by (own := [("world", 3)]) (N := ["ties", "numbers", "found", "world"]) (sc := defScope s_the_keeping) (by decide +kernel)) (fun _ _ _ _ _ => (pg_name (i := 3) sc_the_keeping.nd rfl (Or.inl rfl))) (fun _ _ _ _ _ => pts_nil) (fun _ _ _ _ _ => (pv 3)) (fun _ _ _ _ _ => (pe_dget (u1 hr.r.units) (pv 1) (pv 3) (fun _ _ => rfl)))))
      (pss_cons (ps_for (passes_of rfl) rfl (k_plist (K := K) rfl (dm0 T.cl_Ties T.me_Ties_free (ok_Ties_free T) (hr.mono (by decide)) T.b_Ties_free passL (pv 0))) (pg_name (i := 3) sc_the_keeping.nd rfl (Or.inl rfl))
      (pss_one (ps_asg (pe_ix (k_ix (K := K) rfl) (d1 (ok_best_at T) (hr.mono (by decide)) (by rfl) T.m_best_at T.F_best_at.kp T.b_best_at passL (pa_cons (pv 0) (pa_cons (pv 2) (pa_cons (pv 3) pa_nil)))) pe_int (fun _ _ => rfl)) (pg_sub (pv 2) (pv 3) (set_dict (u1 hr.r.units))))))
      (pss_one (ps_ret (pe_dc (own := [("world", 3)]) (g := (gName 3)) (tt := tYes) rfl sc_the_keeping.nd (k_plist (K := K) rfl (pe_callB (k_sortedD rfl) (by rfl) T.n_sorted (by decide +kernel) (pa_cons (pv 2) pa_nil))) (blkOk_by (own := [("world", 3)]) (N := ["ties", "numbers", "found", "world"]) (sc := defScope s_the_keeping) (by decide +kernel)) (fun _ _ _ _ _ => (pg_name (i := 3) sc_the_keeping.nd rfl (Or.inl rfl))) (fun _ _ _ _ _ => pts_nil) (fun _ _ _ _ _ => (pv 3)) (fun _ _ _ _ _ => (pe_dget (u1 hr.r.units) (pv 2) (pv 3) (fun _ _ => rfl)))))))), ?_⟩
    dsimp only [cxOf, st_1, st_2, st_3, st_4, st_5, st_6, List.length_cons, List.length_nil, List.replicate_succ, List.replicate_zero, Nat.reduceAdd, Nat.reduceSub]
    walk_at "gs"
    refine i_dcL ?_
    walk_at "gs"
    refine ⟨t, ps, ever, liv, ks, nb, rfl, x0, fun L fL => ?_⟩
    have kL := Kp.new (ws := []) (o := HO.lst (liv.map V.int)) fL
    have hL := fresh_at (o := HO.lst (liv.map V.int)) fL
    have hdL := kL.at_ _ _ hd not_nil
    refine i_dlistG (SqL.of hL) (fun R i H' => Kp [] (upd H L (.lst (liv.map V.int))) H' ∧ H' R = some (.dK (((liv.take i).map fun x => (x, look prs x)).map kN))) ?_ ?_ ?_ ?_
    · intro R fR
      exact ⟨Kp.new fR, upd_same⟩
    · rintro R i H' fR _ ⟨kk, _⟩
      exact kk.seqL not_nil (SqL.of hL)
    · rintro R i y H' fR hy ⟨kk, hR⟩
      obtain ⟨x, hx, e⟩ := map_get hy
      subst e
      have hil := (List.getElem?_eq_some_iff.mp hx).1
      have hxl := hl x (List.mem_of_getElem? hx)
      walk_at "gs"
      refine i_dg (kk.at_ _ _ hdL not_nil) (look_mem hxl).2 ?_
      refine ⟨_, .inl x, rfl, hR, small_sz (by rw [List.length_map, List.length_map, List.length_take]; omega), Kp.upd kk fR, ?_⟩
      rw [put_kN (n := look prs x) (by
        rw [List.map_map, show ((fun q : Int × Int => q.1) ∘ fun x : Int => (x, look prs x)) = id from rfl, List.map_id]
        intro m
        obtain ⟨i2, hi2⟩ := List.getElem?_of_mem m
        have l2 := (List.getElem?_eq_some_iff.mp hi2).1
        rw [List.length_take] at l2
        rw [List.getElem?_take_of_lt (by omega)] at hi2
        have := (List.getElem?_inj hil z.nl).mp (hx.trans hi2.symm)
        omega), take_map_snoc hx]
      exact upd_same
    rintro F H1 fF ⟨k1, hF⟩
    rw [List.length_map, List.take_length] at hF
    have fF0 : Fr H F := kL.free fF
    have k01 := Kp.trans kL k1
    have ht1 := k01.at_ _ _ ht not_nil
    obtain ⟨p0, ep0⟩ : ∃ p0, p0 = liv.map fun x => (x, look prs x) := ⟨_, rfl⟩
    rw [← ep0] at hF
    have kp0 : p0.map (·.1) = liv := by
      rw [ep0, List.map_map]
      exact List.map_id _
    have lp0 : p0.length = liv.length := by rw [← kp0, List.length_map]
    have look0 : ∀ x ∈ liv, look p0 x = look prs x := fun x hx => look_eq (by rw [kp0]; exact z.nl) (by rw [ep0]; exact List.mem_map.mpr ⟨x, hx, rfl⟩)
    walk_at "gs"
    refine ⟨t, ps, ever, liv, ks, nb, rfl, x0.kp0 k01, by omega, fun W fs H2 fW k2 hW fo => ?_⟩
    have nfs : fs.Nodup := fo.1.imp fun {a b} lt e => by omega
    have lfs : fs.length ≤ ks.length := sub_len nfs fun x hx => ((fo.2 x).mp hx).1
    have nall : (liv ++ fs).Nodup := List.nodup_append.mpr ⟨z.nl, nfs, fun x hx y hy e => ((fo.2 y).mp hy).2 (e ▸ hx)⟩
    have lall : (liv ++ fs).length ≤ ks.length := sub_len nall fun x hx => (List.mem_append.mp hx).elim (z.sub x) fun h => ((fo.2 x).mp h).1
    rw [List.length_append] at lall
    have k02 := Kp.trans k01 k2
    have hF2 := k2.at_ _ _ hF not_nil
    have nWF : W ≠ F := fun e => by
      rw [e, hF2] at hW
      cases hW
    have start : liv ≠ [] → ∀ nums, NumsOf p0 nums → NumsOf p0 nums ∧ KpOf nums ks nb liv.length p0 := fun _ nums h => ⟨h, by rw [← lp0]; exact KpOf.start⟩
    refine i_each (SqL.of hW) (fun i σ H' => ∃ (o3 : Option V) (pr : List (Int × Int)), σ = [some (.ref t), some (.ref d), some (.ref F), o3] ∧ Kp [F] H2 H' ∧ H' F = some (.dK (pr.map kN)) ∧ pr.map (·.1) = liv ++ fs.take i ∧ (∀ x ∈ liv, look pr x = look prs x) ∧
      (liv ≠ [] → ∀ nums, NumsOf p0 nums → NumsOf pr nums ∧ KpOf nums ks nb liv.length pr)) ?_ ?_ ?_ ?_
    · exact ⟨_, p0, rfl, Kp.refl, hF2, by rw [kp0, List.take_zero, List.append_nil], look0, start⟩
    · rintro i σ H' _ ⟨_, _, _, kk, _⟩
      exact kk.seqL (not_one nWF) (SqL.of hW)
    · rintro i y σ H3 hy ⟨o3, pr, rfl, k3, hF3, kpr, lkp, kpo⟩
      obtain ⟨w, hw, e⟩ := map_get hy
      subst e
      have hil := (List.getElem?_eq_some_iff.mp hw).1
      have hwf := (fo.2 w).mp (List.mem_of_getElem? hw)
      have nli : liv ≠ [] := fun e => by
        have e3 := z.red w hwf.1 hwf.2
        obtain ⟨y, hy⟩ := List.exists_mem_of_length_pos (show 0 < (nb w).length by omega)
        obtain ⟨v, hv, _⟩ := z.leaf hwf.1 hy
        rw [e] at hv
        cases hv
      have npr : w ∉ pr.map (·.1) := fun m => by
        rw [kpr] at m
        rcases List.mem_append.mp m with m | m
        · exact hwf.2 m
        · obtain ⟨i2, hi2⟩ := List.getElem?_of_mem m
          have l2 := (List.getElem?_eq_some_iff.mp hi2).1
          rw [List.length_take] at l2
          rw [List.getElem?_take_of_lt (by omega)] at hi2
          have := (List.getElem?_inj hil nfs).mp (hw.trans hi2.symm)
          omega
      have ndpr : (pr.map (·.1)).Nodup := by
        rw [kpr]
        exact nall.sublist (List.Sublist.append (.refl _) (List.take_sublist _ _))
      have lpr : pr.length = liv.length + i := by
        have := congrArg List.length kpr
        rw [List.length_map, List.length_append, List.length_take] at this
        omega
      have nepr : pr ≠ [] := fun e => by
        rw [e] at lpr
        have := List.length_pos_iff.mpr nli
        simp only [List.length_nil] at lpr
        omega
      have hlp : ∀ x ∈ liv, x ∈ pr.map (·.1) := fun x hx => by rw [kpr]; exact List.mem_append.mpr (.inl hx)
      have k03 : Kp [] H H3 := Kp.dropAll (Kp.trans k02.wide k3) fun b hb => .inr (by rw [List.mem_singleton.mp hb]; exact fF0)
      walk_at "gs"
      refine ⟨D, t, F, ps, ever, liv, ks, nb, w, pr, rfl, x0.kp0 k03, z, by omega, hwf.1, hF3, ndpr, nepr, by omega, fun R nums G ns H4 nof is fR k4 hR pw mem => ?_⟩
      have tw : tl pr w = none := by
        unfold tl
        rw [if_neg npr]
      have ev : vals (tl pr) nums w = nums := by
        unfold vals
        rw [tw]
      obtain ⟨s1, s2⟩ := minL_spec (l := (vals (tl pr) nums w).map (G.low (tl pr) nums)) (fun e => vals_ne (told := tl pr) (nof.ne nepr) w (List.map_eq_nil_iff.mp e))
      obtain ⟨b, hb1, hb2⟩ := List.mem_map.mp s1
      have hbn : b ∈ ns := (mem b).mpr ⟨hb1, hb2⟩
      obtain ⟨n, ns', ens⟩ : ∃ n l, ns = n :: l := by
        cases ns with
        | nil => cases hbn
        | cons a l => exact ⟨a, l, rfl⟩
      have hn := (mem n).mp (by rw [ens]; exact List.mem_cons_self)
      rw [ev] at hn
      have least : ∀ n' ∈ ns, n ≤ n' := fun n' hn' => by
        rw [ens] at hn' pw
        rcases List.mem_cons.mp hn' with e | h
        · omega
        · have := List.rel_of_pairwise_cons pw h
          omega
      have hat : atI (ns.map V.int) 0 = some (.int n) := by
        rw [ens]
        exact at_zero
      refine i_ixL (SqL.of hR) hat ?_
      have hF4 := k4.at_ _ _ hF3 not_nil
      walk_at "gs"
      refine i_setK hF4 (by rw [List.length_map]; omega) ?_
      rw [put_kN npr]
      have bstL : ∀ rs, RowsOf ks nb rs → Lst (tl pr) nums ks rs (G.bst (tl pr) nums w) := fun rs ro => is.lst z hwf.1 hlp nepr nof ro
      have lowL : ∀ n', n' ∈ nums → ∀ rs, RowsOf ks nb rs → Lst (tell1 (tl pr) w n') nums ks rs (G.low (tl pr) nums n') := fun n' hn' rs ro => is.lown z hwf.1 (fun x hx => tl_none (hlp x hx)) nof.tn (nof.ne nepr) (pw_ltQ_nd ro.1) ro.2 tw hn'
      refine ⟨_, pr ++ [(w, n)], rfl, Kp.trans k3 (Kp.trans k4.wide (kp_set hF4 (fun z => z))), upd_same, ?_, fun x hx => ?_, fun nl nums' h0 => ?_⟩
      · rw [List.map_append, kpr, List.take_add_one, hw]
        simp
      · rw [look_app (hlp x hx)]
        exact lkp x hx
      · obtain ⟨h1, h2⟩ := kpo nl nums' h0
        have en := h1.uniq nof
        subst en
        refine ⟨⟨h1.1, fun m => ?_⟩, h2.go npr hn.1 (fun rs ro m hm => ?_) fun n' hn' lt rs ro m hm hm' => ?_⟩
        · rw [List.map_append, List.mem_append, h1.2]
          exact ⟨.inl, fun h => h.elim id fun h => by
            rw [List.map_cons, List.map_nil, List.mem_singleton] at h
            rw [h]
            exact (h1.2 n).mp hn.1⟩
        · have e := hm.uniq (bstL rs ro)
          rw [e, ← hn.2]
          exact lowL n hn.1 rs ro
        · have e1 := hm.uniq (bstL rs ro)
          have e2 := hm'.uniq (lowL n' hn' rs ro)
          have := least n' ((mem n').mpr ⟨by rw [ev]; exact hn', by omega⟩)
          omega
    rintro σ H3 ⟨o3, pr, rfl, k3, hF3, kpr, lkp, kpo⟩
    rw [List.length_map, List.take_length] at kpr
    have k03 : Kp [] H H3 := Kp.dropAll (Kp.trans k02.wide k3) fun b hb => .inr (by rw [List.mem_singleton.mp hb]; exact fF0)
    have ndpr : (pr.map (·.1)).Nodup := by
      rw [kpr]
      exact nall
    walk_at "gs"
    refine i_dcL ?_
    walk_at "gs"
    refine i_sortedN hF3 fun ss S pm pw fS => ?_
    have kS := Kp.new (ws := []) (o := HO.lst (ss.map V.int)) fS
    have hS := fresh_at (o := HO.lst (ss.map V.int)) fS
    have hFS := kS.at_ _ _ hF3 not_nil
    have nss : ss.Nodup := pm.nodup_iff.mpr ndpr
    have lss := pm.length_eq
    rw [kpr, List.length_append] at lss
    have mss : ∀ x, x ∈ ss ↔ x ∈ ks := fun x => by
      rw [pm.mem_iff, kpr, List.mem_append, fo.2]
      exact ⟨fun h => h.elim (z.sub x) fun h => h.1, fun h => by
        by_cases c : x ∈ liv
        · exact .inl c
        · exact .inr ⟨h, c⟩⟩
    refine i_dlistG (SqL.of hS) (fun R i H' => Kp [] (upd H3 S (.lst (ss.map V.int))) H' ∧ H' R = some (.dK (((ss.take i).map fun x => (x, look pr x)).map kN))) ?_ ?_ ?_ ?_
    · intro R fR
      exact ⟨Kp.new fR, upd_same⟩
    · rintro R i H' fR _ ⟨kk, _⟩
      exact kk.seqL not_nil (SqL.of hS)
    · rintro R i y H' fR hy ⟨kk, hR⟩
      obtain ⟨x, hx, e⟩ := map_get hy
      subst e
      have hil := (List.getElem?_eq_some_iff.mp hx).1
      have hxl : x ∈ pr.map (·.1) := pm.mem_iff.mp (List.mem_of_getElem? hx)
      walk_at "gs"
      refine i_dg (kk.at_ _ _ hFS not_nil) (look_mem hxl).2 ?_
      refine ⟨_, .inl x, rfl, hR, small_sz (by rw [List.length_map, List.length_map, List.length_take]; omega), Kp.upd kk fR, ?_⟩
      rw [put_kN (n := look pr x) (by
        rw [List.map_map, show ((fun q : Int × Int => q.1) ∘ fun x : Int => (x, look pr x)) = id from rfl, List.map_id]
        intro m
        obtain ⟨i2, hi2⟩ := List.getElem?_of_mem m
        have l2 := (List.getElem?_eq_some_iff.mp hi2).1
        rw [List.length_take] at l2
        rw [List.getElem?_take_of_lt (by omega)] at hi2
        have := (List.getElem?_inj hil nss).mp (hx.trans hi2.symm)
        omega), take_map_snoc hx]
      exact upd_same
    rintro R H5 fR ⟨k5, hR⟩
    rw [List.length_map, List.take_length] at hR
    have k05 := Kp.trans k03 (Kp.trans kS k5)
    have kout : (ss.map fun x => (x, look pr x)).map (·.1) = ss := by
      rw [List.map_map]
      exact List.map_id _
    refine k R fs pr _ H5 ((Kp.trans k03 kS).free fR) k05 hR fo kpr lkp (fun nl nums h => kpo nl nums (by rw [ep0]; exact h)) ?_ ?_ ?_
    · rw [kout]
      exact strict_of (.refl _) nss pw
    · rw [kout]
      exact mss
    · intro x hx
      exact look_eq (by rw [kout]; exact nss) (List.mem_map.mpr ⟨x, (mss x).mpr hx, rfl⟩)

/-! ### list(d.values()) -/
section
open PySem.Calls PyProof.Rows PySem.Spec PyProof
variable {X : Cx}
theorem vals_of_at : ∀ {xs : List V} {us : List Value}, us.length = xs.length → (∀ (j : Nat) (v : Value), us[j]? = some v → ∃ x, xs[j]? = some x ∧ RelV x v) → Vals xs us
  | [], [], _, _ => .nil
  | x :: xs, u :: us, hl, h => by
    obtain ⟨y, e, r⟩ := h 0 u rfl
    rw [List.getElem?_cons_zero] at e
    injection e with e
    subst e
    exact .cons r (vals_of_at (by simpa using hl) fun j v e => by simpa using h (j + 1) v (by simpa using e))
  | [], _ :: _, hl, _ => by simp at hl
  | _ :: _, [], hl, _ => by simp at hl
def LVals (x : V) (H1 : Hp) (Q : VK) : Prop := ∃ (a : Addr) (kvs : List (Key × V)), x = .ref a ∧ H1 a = some (.dK kvs) ∧ ∀ p, Fr H1 p → Q (.ref p) (upd H1 p (.lst (kvs.map (·.2))))
def tListVals (td : TE) : TE := fun σ H Q => td σ H fun x H1 => LVals x H1 Q
theorem i_listVals {td : TE} {σ : L2.St} {H : Hp} {Q : VK} (h : td σ H fun x H1 => LVals x H1 Q) : tListVals td σ H Q := h
theorem pe_listVals {o : Expr} {p pos apos mpos : Pos} {td : TE} (calm : X.calm = true) (hg : Gl X "list") (hm : X.mg "list" = none) (hd : PE X o td) (base : attributeBase o "values" X.env (eval o X.env) = eval o X.env := by rfl) (line : (apos.endLine == mpos.line) = true := by rfl)
    (one : starEach [Expr.Call (.Attribute o "values" apos) [] [] mpos] X.env = (false, eval (Expr.Call (.Attribute o "values" apos) [] [] mpos) X.env) :: starEach [] X.env := by rfl) :
    PE X (.Call (.Name "list" p) [.Call (.Attribute o "values" apos) [] [] mpos] [] pos) (tListVals td) := by
  refine ⟨fun pins s σ H Q I q0 => ?_⟩
  refine Call_ (ld_blt I hg hm boot_list ?_)
  refine PyProof.Rows.callWith_type1 (PyProof.Rows.args_cons (wpAny_Call_method0_late base line (thn (hd.run pins s σ H _ I q0) fun v s1 z => ?_)) one) one rfl
  obtain ⟨x, H1, I1, r1, a, kvs, ex, ha, q⟩ := z
  subst ex
  obtain rfl : v = Value.ref a := r1
  obtain ⟨wide, low, vs, rel, dof⟩ := dk_of I1.hok ha
  obtain ⟨ep, dat⟩ := dof.dictAt
  obtain ⟨ob, es, got, ex, hdat, hko, hpr, hnd⟩ := id dat
  refine ⟨"dict", "dict.values", PySem.F.plainAttrs_dict, PySem.F.slot_dict_values, PySem.F.type_dict_values, ⟨ob, got, ex.1⟩, fun b e => ?_, Calls.callWith_builtin rfl (PySem.evalArgs_none ?_)⟩
  · cases e
    exact ⟨ob, got, ex.2.1⟩
  refine call_meetsIn PySem.F.slot_dict_values ⟨ob, got, ex.1⟩ PySem.F.entry_dict_values (PySem.F.args_dict_values_1 _) (meets_dict_values (mixKind X.prog X.w) a low) ⟨⟨vs, dof⟩, ?_⟩
  refine PyProof.Rows.args_nil ?_
  have older : ∀ b u, s1.heap.get? b = some u → (s1.heap.push { cls := .type "dict_values", data := .fields #[.ref a] }).get? b = some u := fun b u e => Heap.get?_push_of_some _ e
  have dat1 : (s1.heap.push { cls := .type "dict_values", data := .fields #[.ref a] }).DictAt (mixKind X.prog X.w) a vs ep := dat.keep older
  have I2 : Inv X pins σ H1 { s1 with heap := s1.heap.push { cls := .type "dict_values", data := .fields #[.ref a] } } := I1.kept (t' := s1.toks) older
  refine PySem.W.kdl_call (PySem.W.kdl_values (knd := mixKind X.prog X.w) (r := s1.heap.objs.size) (d := a) (kvs := vs) (ep := ep)) (I.ok.hd calm) ⟨⟨_, Heap.get?_push_size _ rfl, rfl, rfl⟩, dat1⟩ (by rw [← rel.length]; exact wide) fun h' tk acc c' kept made items => ?_
  have hv : Vals (kvs.map (·.2)) acc.toList := vals_of_at (by rw [Array.length_toList, List.length_map, rel.length]; exact items.1) fun j v e => by
    obtain ⟨key, ek⟩ := items.2 j v (by rw [← Array.getElem?_toList]; exact e)
    obtain ⟨x, e1, e2⟩ := KV.at' rel ek
    exact ⟨x, by rw [List.getElem?_map, e1]; rfl, e2⟩
  have gone : H1 (s1.heap.push { cls := .type "dict_values", data := .fields #[.ref a] }).objs.size = none := I2.hok.fresh (Nat.le_refl _)
  exact ⟨.ref (s1.heap.push { cls := .type "dict_values", data := .fields #[.ref a] }).objs.size, _, I2.laid (t' := tk) kept (Nat.le_refl _) (show ObjOk X.prog X.w _ _ _ (.lst (kvs.map (·.2))) from ⟨by rw [List.length_map]; exact wide, acc.toList, c', hv, by rw [Array.toArray_toList]; exact made⟩), rfl, q _ ⟨gone⟩⟩
end

/-! ### set(list): as many as there are unlike ones -/
section
open PySem PySem.Spec PyProof PyProof.Rows PySem.Calls
theorem setR_few {w : World} {h : Heap} {a : Addr} {ns : List Int} {c : Nat} (R : L2.SetR w h a (fun j => decide (j ∈ ns)) c) {m : List Int} (sub : ∀ x ∈ ns, x ∈ m) : c ≤ m.length := by
  obtain ⟨o, es, ep, t, _, _, _, _, nd, mem, _, _, size, _⟩ := R
  have := sub_len nd fun x hx => sub x (of_decide_eq_true ((mem x).mpr hx))
  rw [List.length_map, Array.length_toList, size] at this
  exact this
def rSetL2 (K : PySem.W.Frag) (w : World) : List V → Hp → VK → Prop := fun xs H Q => ∃ (l : Addr) (ns : List Int), xs = [.ref l] ∧ SqL K H l (ns.map V.int) ∧ ns.length ≤ 4000 ∧
  ∀ p c, Fr H p → (∀ m : List Int, (∀ x ∈ ns, x ∈ m) → c ≤ m.length) → Q (.ref p) (upd H p (L2.SetO w p (fun j => decide (j ∈ ns)) c))
theorem k_setL2 {X : Cx} {K : PySem.W.Frag} {w : World} (h : X.K = K) (hw : X.w = w) (hc : X.calm = true) : CallR X (.type "set") (rSetL2 K w) := by
  subst h
  subst hw
  intro pins s σ H xs us Q I r q
  obtain ⟨l, ns, rfl, hs, hn, q⟩ := q
  rw [Vals.ref1 r]
  obtain ⟨its, rv, pl, hz⟩ := I.list hs
  have hi : PyProof.Rows.IntsAre its.toArray.toList ns := by simpa using RZ.intsAre_vals rv
  refine setL_call ns (I.ok.hd hc) pl.isList hi (by unfold scanBound; omega) fun s2 d => ?_
  obtain ⟨h', tk, c, rfl, R, lc, kp⟩ := d
  have fresh : H s.heap.objs.size = none := I.hok.fresh (Nat.le_refl _)
  exact ⟨.ref s.heap.objs.size, upd H s.heap.objs.size (L2.SetO X.w s.heap.objs.size (fun j => decide (j ∈ ns)) c), I.laid (t' := tk) kp (Nat.le_refl _) (L2.setO_new R), rfl, q _ c ⟨fresh⟩ fun m sub => setR_few R sub⟩
end

def nub (l : List Int) : List Int := l.foldl (fun acc x => if acc.any (· == x) then acc else acc ++ [x]) []
theorem nub_go : ∀ (l acc : List Int), acc.Nodup → (l.foldl (fun acc x => if acc.any (· == x) then acc else acc ++ [x]) acc).Nodup ∧ ∀ y, y ∈ l.foldl (fun acc x => if acc.any (· == x) then acc else acc ++ [x]) acc ↔ y ∈ acc ∨ y ∈ l
  | [], acc, h => ⟨h, fun y => by simp⟩
  | a :: l, acc, h => by
    rw [List.foldl_cons]
    by_cases c : acc.any (· == a)
    · rw [if_pos c]
      obtain ⟨i1, i2⟩ := nub_go l acc h
      refine ⟨i1, fun y => ?_⟩
      rw [i2, List.mem_cons]
      have ha : a ∈ acc := by
        obtain ⟨z, hz, e⟩ := List.any_eq_true.mp c
        rw [← eq_of_beq e]
        exact hz
      constructor
      · rintro (h | h)
        · exact .inl h
        · exact .inr (.inr h)
      · rintro (h | rfl | h)
        · exact .inl h
        · exact .inl ha
        · exact .inr h
    · rw [if_neg c]
      have ha : a ∉ acc := fun h => c (List.any_eq_true.mpr ⟨a, h, by simp⟩)
      obtain ⟨i1, i2⟩ := nub_go l (acc ++ [a]) (List.nodup_append.mpr ⟨h, by simp, fun u hu v hv e => ha (by rw [List.mem_singleton.mp hv] at e; rw [← e]; exact hu)⟩)
      refine ⟨i1, fun y => ?_⟩
      rw [i2, List.mem_append, List.mem_singleton, List.mem_cons]
      exact or_assoc
theorem nub_nd (l : List Int) : (nub l).Nodup := (nub_go l [] List.nodup_nil).1
theorem mem_nub {l : List Int} {y : Int} : y ∈ nub l ↔ y ∈ l := by
  have := (nub_go l [] List.nodup_nil).2 y
  unfold nub
  rw [this]
  simp

/-! ### len(set(numbers)) -/
theorem firstMet_nub (ns : List Int) : PyProof.Rows.firstMet (fun i => ns.getD i 0) ns.length = nub ns := by
  unfold PyProof.Rows.firstMet nub
  have e : (List.range ns.length).map (fun i => ns.getD i 0) = ns := by
    refine List.ext_getElem (by rw [List.length_map, List.length_range]) fun i h1 h2 => ?_
    rw [List.getElem_map, List.getElem_range, List.getD_eq_getElem?_getD, List.getElem?_eq_getElem h2]
    rfl
  rw [e]
  rfl
def LenSetG (K : PySem.W.Frag) (x : V) (H1 : Hp) (Q : VK) : Prop := ∃ (l : Addr) (ns : List Int), x = .ref l ∧ SqL K H1 l (ns.map V.int) ∧ ns.length ≤ 4000 ∧ Q (.int ((nub ns).length : Nat)) H1
def tLenSetG (K : PySem.W.Frag) (ta : TE) : TE := fun σ H Q => ta σ H fun x H1 => LenSetG K x H1 Q
section
open PySem.Calls PyProof.Rows
theorem pe_lenSetG {X : Cx} {a : Expr} {ta : TE} {p p2 q pos : Pos} (hg : Gl X "len") (hm : X.mg "len" = none) (hg2 : Gl X "set") (hm2 : X.mg "set" = none) (ha : PE X a ta) (hc : X.calm = true := by rfl)
    (na : starEach [a] X.env = (false, eval a X.env) :: starEach [] X.env := by rfl) : PE X (.Call (.Name "len" p) [.Call (.Name "set" p2) [a] [] q] [] pos) (tLenSetG X.K ta) := by
  refine ⟨fun pins s σ H Q I h => ?_⟩
  refine Call_ (ld_blt I hg hm boot_len ?_)
  refine PyProof.Rows.callWith_builtin1 (PyProof.Rows.args_cons ?_ rfl) rfl rfl
  refine Call_ (ld_blt I hg2 hm2 boot_set ?_)
  refine PyProof.Rows.callWith_type1 (PyProof.Rows.args_cons (thn (ha.run pins s σ H _ I h) fun v s1 ⟨x, H1, I1, r1, q1⟩ => PyProof.Rows.args_nil ?_) na) na rfl
  obtain ⟨l, ns, rfl, hq, hl, q1⟩ := q1
  cases r1
  obtain ⟨its, r, pl, hz⟩ := I1.list hq
  have hlen : its.toArray.size = ns.length := by rw [List.size_toArray, ← r.length, List.length_map]
  refine call_set_list (I1.ok.hd hc) pl.isList (by simpa using RZ.intsAre_vals r) (by rw [hlen]; unfold scanBound; omega) fun h' tk hS hk => ?_
  refine PyProof.Rows.args_nil ?_
  rw [hlen, firstMet_nub] at hS
  obtain ⟨o, es, ep, t, ho, hex, hd, _, _, _, hf, hn⟩ := hS
  have I2 : Inv X pins σ H1 { s1 with heap := h', toks := tk } := I1.kept fun b o e => hk b o (Heap.lt_size e) e
  have nl : (nub ns).length ≤ 4000 := Nat.le_trans (sub_len (nub_nd ns) fun y hy => mem_nub.mp hy) hl
  exact call_len_set ho hex hd hf (by rw [hn] <;> omega) ⟨.int (nub ns).length, H1, I2.tok _, ⟨_, by rw [hn]⟩, q1⟩
end
theorem i_lenSetG {K : PySem.W.Frag} {ta : TE} {σ : L2.St} {H : Hp} {Q : VK} (h : ta σ H fun x H1 => LenSetG K x H1 Q) : tLenSetG K ta σ H Q := h

/-! ### the law's own keepings, all of them -/
def allQ (some : List Int) : List (List (Int × Int)) → List Int → List (List (Int × Int))
  | qs, [] => qs
  | qs, w :: ws => allQ some (qs.flatMap fun q => some.map fun n => q ++ [(w, n)]) ws
theorem allQ_snoc {some : List Int} {w : Int} : ∀ (ws : List Int) (qs : List (List (Int × Int))), allQ some qs (ws ++ [w]) = (allQ some qs ws).flatMap fun q => some.map fun n => q ++ [(w, n)]
  | [], _ => rfl
  | _ :: ws, _ => allQ_snoc ws _
theorem flat_len {α β : Type} {n : Nat} {f : α → List β} (h : ∀ a, (f a).length = n) : ∀ l : List α, (l.flatMap f).length = l.length * n
  | [] => by simp
  | a :: l => by
    rw [List.flatMap_cons, List.length_append, h, flat_len h l, List.length_cons, Nat.add_mul]
    omega
theorem allQ_len {some : List Int} : ∀ (ws : List Int) (qs : List (List (Int × Int))), (allQ some qs ws).length = qs.length * some.length ^ ws.length
  | [], qs => by simp [allQ]
  | w :: ws, qs => by
    show (allQ some _ ws).length = _
    rw [allQ_len ws, flat_len (n := some.length) (fun q => by rw [List.length_map]), List.length_cons, Nat.pow_succ, Nat.mul_assoc, Nat.mul_comm some.length]
theorem allQ_mem {some : List Int} {q : List (Int × Int)} : ∀ (ws : List Int) (qs : List (List (Int × Int))), q ∈ allQ some qs ws ↔ ∃ q0 ∈ qs, ∃ vs : List Int, vs.length = ws.length ∧ (∀ v ∈ vs, v ∈ some) ∧ q = q0 ++ ws.zip vs
  | [], qs => by
    constructor
    · intro h
      exact ⟨q, h, [], rfl, fun v hv => (nomatch hv), (List.append_nil q).symm⟩
    · rintro ⟨q0, h, vs, _, _, e⟩
      rw [e, List.zip_nil_left, List.append_nil]
      exact h
  | w :: ws, qs => by
    show q ∈ allQ some _ ws ↔ _
    rw [allQ_mem ws]
    constructor
    · rintro ⟨q1, h1, vs, h2, h3, e⟩
      obtain ⟨q0, h4, h5⟩ := List.mem_flatMap.mp h1
      obtain ⟨n, h6, rfl⟩ := List.mem_map.mp h5
      exact ⟨q0, h4, n :: vs, by rw [List.length_cons, List.length_cons, h2], fun v hv => (List.mem_cons.mp hv).elim (fun z => by rw [z]; exact h6) (h3 v), by rw [e, List.zip_cons_cons, List.append_assoc]; rfl⟩
    · rintro ⟨q0, h4, vs, h2, h3, e⟩
      cases vs with
      | nil => cases h2
      | cons n vs =>
        refine ⟨q0 ++ [(w, n)], List.mem_flatMap.mpr ⟨q0, h4, List.mem_map.mpr ⟨n, h3 n List.mem_cons_self, rfl⟩⟩, vs, by simpa using h2, fun v hv => h3 v (List.mem_cons_of_mem _ hv), ?_⟩
        rw [e, List.zip_cons_cons, List.append_assoc]
        rfl
theorem zip_keys : ∀ {ws vs : List Int}, vs.length = ws.length → (ws.zip vs).map (·.1) = ws
  | [], _, _ => rfl
  | w :: ws, [], h => by cases h
  | w :: ws, v :: vs, h => by rw [List.zip_cons_cons, List.map_cons, zip_keys (by simpa using h)]
theorem allQ_keys {some : List Int} {prs q : List (Int × Int)} {ws : List Int} (h : q ∈ allQ some [prs] ws) : q.map (·.1) = prs.map (·.1) ++ ws := by
  obtain ⟨q0, h0, vs, h1, _, rfl⟩ := (allQ_mem ws _).mp h
  rw [List.mem_singleton.mp h0, List.map_append, zip_keys h1]
/-- lists of dicts -/
def DsAt (H : Hp) : List Addr → List (List (Int × Int)) → Prop
  | [], [] => True
  | a :: as, q :: qs => H a = some (.dK (q.map kN)) ∧ DsAt H as qs
  | _, _ => False
theorem DsAt.len {H : Hp} : ∀ {as : List Addr} {qs : List (List (Int × Int))}, DsAt H as qs → as.length = qs.length
  | [], [], _ => rfl
  | _ :: _, _ :: _, h => by rw [List.length_cons, List.length_cons, DsAt.len h.2]
  | [], _ :: _, h => h.elim
  | _ :: _, [], h => h.elim
theorem DsAt.kp {H H' : Hp} {ws : List Addr} (k : Kp ws H H') : ∀ {as : List Addr} {qs : List (List (Int × Int))}, (∀ a ∈ as, a ∉ ws) → DsAt H as qs → DsAt H' as qs
  | [], [], _, _ => trivial
  | _ :: _, _ :: _, n, ⟨h, r⟩ => ⟨k.at_ _ _ h (n _ List.mem_cons_self), DsAt.kp k (fun b hb => n b (List.mem_cons_of_mem _ hb)) r⟩
  | [], _ :: _, _, h => h.elim
  | _ :: _, [], _, h => h.elim
theorem DsAt.kp0 {H H' : Hp} {as : List Addr} {qs : List (List (Int × Int))} (h : DsAt H as qs) (k : Kp [] H H') : DsAt H' as qs := h.kp k fun _ _ => not_nil
theorem DsAt.snoc {H : Hp} {a : Addr} {q : List (Int × Int)} (e : H a = some (.dK (q.map kN))) : ∀ {as : List Addr} {qs : List (List (Int × Int))}, DsAt H as qs → DsAt H (as ++ [a]) (qs ++ [q])
  | [], [], _ => ⟨e, trivial⟩
  | _ :: _, _ :: _, ⟨a, r⟩ => ⟨a, DsAt.snoc e r⟩
  | [], _ :: _, h => h.elim
  | _ :: _, [], h => h.elim
theorem DsAt.get {H : Hp} : ∀ {as : List Addr} {qs : List (List (Int × Int))} {i : Nat} {a : Addr}, DsAt H as qs → as[i]? = some a → ∃ q, qs[i]? = some q ∧ H a = some (.dK (q.map kN))
  | [], [], _, _, _, e => by simp at e
  | _ :: _, q :: _, 0, a, ⟨h, _⟩, e => by
    rw [List.getElem?_cons_zero] at e
    injection e with e
    subst e
    exact ⟨q, rfl, h⟩
  | _ :: as, _ :: qs, i + 1, a, ⟨_, r⟩, e => by
    rw [List.getElem?_cons_succ] at e ⊢
    exact DsAt.get r e
  | [], _ :: _, _, _, h, _ => h.elim
  | _ :: _, [], _, _, h, _ => h.elim
theorem DsAt.ne {H : Hp} {p : Addr} {o : HO} (hp : H p = some o) (nd : ∀ kvs, o ≠ .dK kvs) : ∀ {as : List Addr} {qs : List (List (Int × Int))}, DsAt H as qs → ∀ a ∈ as, a ∉ [p]
  | [], [], _, _, ha => nomatch ha
  | _ :: _, q :: _, ⟨h, r⟩, a, ha => by
    rcases List.mem_cons.mp ha with rfl | ha
    · refine not_one fun e => ?_
      rw [e, hp] at h
      injection h with h
      exact nd _ h
    · exact DsAt.ne hp nd r a ha
  | [], _ :: _, h, _, _ => h.elim
  | _ :: _, [], h, _, _ => h.elim
theorem take_flat {α β : Type} {f : α → List β} {l : List α} {i : Nat} {x : α} (h : l[i]? = some x) : (l.take (i + 1)).flatMap f = (l.take i).flatMap f ++ f x := by
  rw [List.take_add_one, h, List.flatMap_append]
  simp
theorem flat_le {α β : Type} {n : Nat} {f : α → List β} (h : ∀ a, (f a).length = n) (l : List α) (i : Nat) : ((l.take i).flatMap f).length ≤ (l.flatMap f).length := by
  rw [flat_len h, flat_len h]
  exact Nat.mul_le_mul_right _ (by rw [List.length_take]; omega)
def sp_law_all (K : PySem.W.Frag) : Sp := fun vs H Q _ => ∃ (d F S : Addr) (prs : List (Int × Int)) (fs some : List Int), vs = [.ref d, .ref F, .ref S] ∧ H d = .some (.dK (prs.map kN)) ∧ H F = .some (.lst (fs.map V.int)) ∧ H S = .some (.lst (some.map V.int)) ∧
  (prs.map (·.1) ++ fs).Nodup ∧ prs.length ≤ 100 ∧ fs.length ≤ 100 ∧ some ≠ [] ∧ some.length ^ fs.length ≤ 100000 ∧
  ∀ R as H', Fr H R → Kp [] H H' → H' R = .some (.lst (as.map V.ref)) → DsAt H' as (allQ some [prs] fs) → Q (.ref R) H'
theorem sc_law_all : FnScope ["_law_numbers_here", "_law_free", "_law_some", "_law_found", "_law_world", "_law_longer", "_law_one", "_law_number", "_law_other"] ["_law_numbers_here", "_law_free", "_law_some"] (defScope s_law_all) :=
  ⟨rfl, rfl, rfl, by decide +kernel, rfl, by decide +kernel, by decide +kernel⟩
theorem ok_law_all {P : Program} {w : World} {K : PySem.W.Frag} {mg : Str → Option Value} {base : Heap} (T : Txt K mg) :
    FnG P w K mg base 1 T.a_law_all T.d_law_all ["_law_numbers_here", "_law_free", "_law_some"] (sp_law_all K) := by
  refine okD T.F_law_all sc_law_all (fun vs H Q E h => ?_) (fun cdv A outer s H vs Q E hr h => ?_)
  · first
      | (obtain ⟨_, rfl, _⟩ := h; rfl)
      | (obtain ⟨_, _, rfl, _⟩ := h; rfl)
      | (obtain ⟨_, _, _, rfl, _⟩ := h; rfl)
      | (obtain ⟨_, _, _, _, rfl, _⟩ := h; rfl)
      | (obtain ⟨_, _, _, _, _, rfl, _⟩ := h; rfl)
      | (obtain ⟨_, _, _, _, _, _, rfl, _⟩ := h; rfl)
      | (obtain ⟨_, _, _, _, _, _, _, rfl, _⟩ := h; rfl)
      | (obtain ⟨_, _, _, _, _, _, _, _, rfl, _⟩ := h; rfl)
      | (obtain ⟨_, _, _, _, _, _, _, _, _, rfl, _⟩ := h; rfl)
      | (obtain ⟨_, _, _, _, _, _, _, _, _, _, rfl, _⟩ := h; rfl)
      | (obtain ⟨_, _, _, _, _, _, _, _, _, _, _, rfl, _⟩ := h; rfl)
      | (obtain ⟨_, _, _, _, _, _, _, _, _, _, _, _, rfl, _⟩ := h; rfl)
      | (obtain ⟨_, _, _, _, _, _, _, _, _, _, _, _, _, rfl, _⟩ := h; rfl)
      | (obtain ⟨_, _, _, _, _, _, _, _, _, _, _, _, _, _, rfl, _⟩ := h; rfl)
      | (obtain ⟨_, _, _, _, _, _, _, _, _, _, _, _, _, _, _, rfl, _⟩ := h; rfl)
      | (obtain ⟨_, _, _, _, _, _, _, _, _, _, _, _, _, _, _, _, rfl, _⟩ := h; rfl)
      | (obtain ⟨_, _, _, _, _, _, _, _, _, _, _, _, _, _, _, _, _, rfl, _⟩ := h; rfl)
      | (obtain ⟨_, _, _, _, _, _, _, _, _, _, _, _, _, _, _, _, _, _, rfl, _⟩ := h; rfl)
      | (obtain ⟨_, _, _, _, _, _, _, _, _, _, _, _, _, _, _, _, _, _, _, rfl, _⟩ := h; rfl)
  · obtain ⟨d, F, S, prs, fs, sm, rfl, hd, hF, hS, nd, lp, lf, nsm, hb, k⟩ := h
    have spos : 0 < sm.length := List.length_pos_iff.mpr nsm
    have bnd : ∀ i, i ≤ fs.length → (allQ sm [prs] (fs.take i)).length ≤ 100000 := fun i hi => by
      rw [allQ_len, List.length_singleton, Nat.one_mul, List.length_take, Nat.min_eq_left hi]
      exact Nat.le_trans (Nat.pow_le_pow_right spos hi) hb
    have cl_Ties := T.cl_Ties
    have na_Ties_near := T.na_Ties_near
    have na_Ties_own_ever := T.na_Ties_own_ever
    have na_Ties_own_living := T.na_Ties_own_living
    refine ⟨_, (pss_cons (ps_set (i := 3) sc_law_all.nd rfl (Or.inl rfl) (pe_lst (pa_cons (pe_callTy call_dictD (by rfl) T.n_dict (by decide +kernel) (pa_cons (pv 0) pa_nil)) pa_nil)))
      (pss_cons (ps_for (passes_of rfl) rfl (k_plist (K := K) rfl (pv 1)) (pg_name (i := 4) sc_law_all.nd rfl (Or.inl rfl))
      (pss_cons (ps_set (i := 5) sc_law_all.nd rfl (Or.inl rfl) (pe_lst pa_nil))
      (pss_cons (ps_for (passes_of rfl) rfl (k_plist (K := K) rfl (pv 3)) (pg_name (i := 6) sc_law_all.nd rfl (Or.inl rfl))
      (pss_one (ps_for (passes_of rfl) rfl (k_plist (K := K) rfl (pv 2)) (pg_name (i := 7) sc_law_all.nd rfl (Or.inl rfl))
      (pss_cons (ps_set (i := 8) sc_law_all.nd rfl (Or.inl rfl) (pe_callTy call_dictD (by rfl) T.n_dict (by decide +kernel) (pa_cons (pv 6) pa_nil)))
      (pss_cons (ps_asg (pv 7) (pg_sub (pv 8) (pv 4) (set_dict (u1 hr.r.units))))
      (pss_one (ps_expr (pe_bm PySem.F.plainAttrs_list PySem.F.slot_list_append PySem.F.type_list_append mt_append (pv 5) (pa_cons (pv 8) pa_nil)))))))))
      (pss_one (ps_set (i := 3) sc_law_all.nd rfl (Or.inl rfl) (pv 5))))))
      (pss_one (ps_ret (pv 3))))), ?_⟩
    dsimp only [cxOf, st_1, st_2, st_3, st_4, st_5, st_6, List.length_cons, List.length_nil, List.replicate_succ, List.replicate_zero, Nat.reduceAdd, Nat.reduceSub]
    walk_at "gs"
    refine ⟨d, _, rfl, Rd.of hd, fun C hC => ?_⟩
    have fC : Fr H C := ⟨hC⟩
    have kC := Kp.new (ws := []) (o := HO.dK (prs.map kN)) fC
    have hC1 := fresh_at (o := HO.dK (prs.map kN)) fC
    walk_at "gs"
    refine i_new fun Fa fFa => ?_
    have kFa := Kp.new (ws := []) (o := HO.lst [.ref C]) fFa
    have hFa := fresh_at (o := HO.lst [.ref C]) fFa
    have k1 := Kp.trans kC kFa
    obtain ⟨H1, e1⟩ : ∃ H1, H1 = upd (upd H C (.dK (prs.map kN))) Fa (.lst [.ref C]) := ⟨_, rfl⟩
    have hC2 := kFa.at_ _ _ hC1 not_nil
    rw [← e1] at kFa hFa k1 hC2 ⊢
    walk_at "gs"
    refine i_each (SqL.of (k1.at_ _ _ hF not_nil)) (fun i σ H' => ∃ (Fb : Addr) (as : List Addr) (o4 o5 o6 o7 o8 : Option V), σ = [some (.ref d), some (.ref F), some (.ref S), some (.ref Fb), o4, o5, o6, o7, o8] ∧ Kp [] H H' ∧ Fr H Fb ∧ H' Fb = some (.lst (as.map V.ref)) ∧ DsAt H' as (allQ sm [prs] (fs.take i))) ?_ ?_ ?_ ?_
    · exact ⟨Fa, [C], _, _, _, _, _, rfl, k1, kC.free fFa, hFa, hC2, trivial⟩
    · rintro i σ H' _ ⟨_, _, _, _, _, _, _, _, kk, _⟩
      exact kk.seqL not_nil (SqL.of hF)
    · rintro i y σ H2 hy ⟨Fb, as, o4, o5, o6, o7, o8, rfl, k2, fFb, hFb, ds⟩
      obtain ⟨wd, hw, e⟩ := map_get hy
      subst e
      have hil := (List.getElem?_eq_some_iff.mp hw).1
      have lds := ds.len
      have elvl : allQ sm [prs] (fs.take (i + 1)) = (allQ sm [prs] (fs.take i)).flatMap fun q => sm.map fun n => q ++ [(wd, n)] := by
        rw [List.take_add_one, hw]
        exact allQ_snoc _ _
      have bl := bnd (i + 1) (by omega)
      rw [elvl] at bl
      have slen : ∀ q : List (Int × Int), (sm.map fun n => q ++ [(wd, n)]).length = sm.length := fun q => by rw [List.length_map]
      obtain ⟨qs, eqs⟩ : ∃ qs, qs = allQ sm [prs] (fs.take i) := ⟨_, rfl⟩
      have fresh : ∀ q ∈ qs, wd ∉ q.map (·.1) := fun q hq m => by
        rw [eqs] at hq
        rw [allQ_keys hq] at m
        rw [List.nodup_append] at nd
        rcases List.mem_append.mp m with m | m
        · exact nd.2.2 wd m wd (List.mem_of_getElem? hw) rfl
        · obtain ⟨j, hj⟩ := List.getElem?_of_mem m
          have lj := (List.getElem?_eq_some_iff.mp hj).1
          rw [List.length_take] at lj
          rw [List.getElem?_take_of_lt (by omega)] at hj
          have := (List.getElem?_inj hil nd.2.1).mp (hw.trans hj.symm)
          omega
      rw [← eqs] at ds lds bl elvl
      walk_at "gs"
      refine i_new fun L fL => ?_
      have kL := Kp.new (ws := []) (o := HO.lst []) fL
      have hL := fresh_at (o := HO.lst []) fL
      obtain ⟨H3, e3⟩ : ∃ H3, H3 = upd H2 L (.lst []) := ⟨_, rfl⟩
      rw [← e3] at kL hL ⊢
      have hFb3 := kL.at_ _ _ hFb not_nil
      have nFbL : Fb ≠ L := fr_ne hFb fL
      have nSL : S ≠ L := fr_ne (k2.at_ _ _ hS not_nil) fL
      have k3 := Kp.trans k2 kL
      have ds3 := ds.kp0 kL
      have fL0 : Fr H L := k2.free fL
      walk_at "gs"
      refine i_each (SqL.of hFb3) (fun j σ H' => ∃ (o6 o7 o8 : Option V) (bs : List Addr), σ = [some (.ref d), some (.ref F), some (.ref S), some (.ref Fb), some (.int wd), some (.ref L), o6, o7, o8] ∧ Kp [L] H3 H' ∧ H' L = some (.lst (bs.map V.ref)) ∧ DsAt H' bs ((qs.take j).flatMap fun q => sm.map fun n => q ++ [(wd, n)])) ?_ ?_ ?_ ?_
      · exact ⟨_, _, _, [], rfl, Kp.refl, hL, by rw [List.take_zero]; trivial⟩
      · rintro j σ H' _ ⟨_, _, _, _, _, kk, _⟩
        exact kk.seqL (not_one nFbL) (SqL.of hFb3)
      · rintro j y σ H4 hy' ⟨o6, o7, o8, bs, rfl, k4, hL4, dbs⟩
        obtain ⟨a, ha, e⟩ := map_get hy'
        subst e
        have dsL : ∀ a ∈ as, a ∉ [L] := ds3.ne hL (fun kvs e => nomatch e)
        obtain ⟨q, hq, hqa⟩ := (ds3.kp k4 dsL).get ha
        have hqm := List.mem_of_getElem? hq
        have sp := take_flat (f := fun q => sm.map fun n => q ++ [(wd, n)]) hq
        have hle := flat_le (f := fun q : List (Int × Int) => sm.map fun n => q ++ [(wd, n)]) slen qs (j + 1)
        rw [sp, List.length_append, slen] at hle
        have hkq : q.length ≤ 200 := by
          rw [eqs] at hqm
          have := congrArg List.length (allQ_keys hqm)
          rw [List.length_map, List.length_append, List.length_map, List.length_take] at this
          omega
        have hfq := fresh q hqm
        have ldb := dbs.len
        have hS4 := k4.at_ _ _ (k3.at_ _ _ hS not_nil) (not_one nSL)
        have naL : a ≠ L := fun e => by
          rw [e, hL4] at hqa
          cases hqa
        walk_at "gs"
        refine i_each (SqL.of hS4) (fun n σ H' => ∃ (o7 o8 : Option V) (cs : List Addr), σ = [some (.ref d), some (.ref F), some (.ref S), some (.ref Fb), some (.int wd), some (.ref L), some (.ref a), o7, o8] ∧ Kp [L] H4 H' ∧ H' L = some (.lst (cs.map V.ref)) ∧ DsAt H' cs (((qs.take j).flatMap fun q => sm.map fun n => q ++ [(wd, n)]) ++ (sm.take n).map fun n => q ++ [(wd, n)])) ?_ ?_ ?_ ?_
        · exact ⟨_, _, bs, rfl, Kp.refl, hL4, by rw [List.take_zero, List.map_nil, List.append_nil]; exact dbs⟩
        · rintro n σ H' _ ⟨_, _, _, _, kk, _⟩
          exact kk.seqL (not_one nSL) (SqL.of hS4)
        · rintro n y σ H5 hy2 ⟨o7, o8, cs, rfl, k5, hL5, dcs⟩
          obtain ⟨x, hx, e⟩ := map_get hy2
          subst e
          have hnl := (List.getElem?_eq_some_iff.mp hx).1
          have ldc := dcs.len
          rw [List.length_append, List.length_map, List.length_take] at ldc
          have hqa5 := k5.at_ _ _ hqa (not_one naL)
          walk_at "gs"
          refine ⟨a, _, rfl, Rd.of hqa5, fun O hO => ?_⟩
          have fO : Fr H5 O := ⟨hO⟩
          have kO := Kp.new (ws := []) (o := HO.dK (q.map kN)) fO
          have hO1 := fresh_at (o := HO.dK (q.map kN)) fO
          have hL6 := kO.at_ _ _ hL5 not_nil
          have dcs6 := dcs.kp0 kO
          have nOL : O ≠ L := Ne.symm (fr_ne hL5 fO)
          have nOcs : ∀ c ∈ cs, c ∉ [O] := fun c hc => by
            obtain ⟨m, hm⟩ := List.getElem?_of_mem hc
            obtain ⟨_, _, h⟩ := dcs.get hm
            exact not_one (fr_ne h fO)
          obtain ⟨H6, e6⟩ : ∃ H6, H6 = upd H5 O (.dK (q.map kN)) := ⟨_, rfl⟩
          rw [← e6] at kO hO1 hL6 dcs6 ⊢
          walk_at "gs"
          refine i_setK hO1 (by rw [List.length_map]; omega) ?_
          rw [put_kN hfq]
          have kM : Kp [O] H6 (upd H6 O (.dK ((q ++ [(wd, x)]).map kN))) := kp_set hO1 (fun z => z)
          have hO7 : (upd H6 O (.dK ((q ++ [(wd, x)]).map kN))) O = some (.dK ((q ++ [(wd, x)]).map kN)) := upd_same
          have hL7 : (upd H6 O (.dK ((q ++ [(wd, x)]).map kN))) L = some (.lst (cs.map V.ref)) := upd_nn (Ne.symm nOL) hL6
          have dcs7 := dcs6.kp kM nOcs
          have k57 : Kp [] H5 (upd H6 O (.dK ((q ++ [(wd, x)]).map kN))) := by
            rw [e6]
            exact Kp.upd (Kp.new fO) fO
          obtain ⟨H7, e7⟩ : ∃ H7, H7 = upd H6 O (.dK ((q ++ [(wd, x)]).map kN)) := ⟨_, rfl⟩
          rw [← e7] at hO7 hL7 dcs7 k57 ⊢
          walk_at "gs"
          have lz : (cs.map V.ref).length < 1000000 := by rw [List.length_map]; omega
          refine i_app hL7 (small_sz (by omega)) ?_
          have kL7 : Kp [L] H7 (upd H7 L (.lst (cs.map V.ref ++ [.ref O]))) := kp_set hL7 (fun z => z)
          have dcsL : ∀ c ∈ cs, c ∉ [L] := dcs7.ne hL7 (fun kvs e => nomatch e)
          walk_at "gs"
          refine ⟨_, _, cs ++ [O], rfl, Kp.trans (Kp.trans k5 k57.wide) kL7, by rw [List.map_append]; exact upd_same, ?_⟩
          rw [take_map_snoc hx, ← List.append_assoc]
          exact DsAt.snoc (kL7.at_ _ _ hO7 (not_one nOL)) (dcs7.kp kL7 dcsL)
        · rintro σ H5 ⟨o7, o8, cs, rfl, k5, hL5, dcs⟩
          rw [List.length_map, List.take_length, ← sp] at dcs
          walk_at "gs"
          exact ⟨_, _, _, cs, rfl, Kp.trans k4 k5, hL5, dcs⟩
      · rintro σ H4 ⟨o6, o7, o8, bs, rfl, k4, hL4, dbs⟩
        rw [List.length_map, lds, List.take_length, ← elvl] at dbs
        walk_at "gs"
        exact ⟨L, bs, _, _, _, _, _, rfl, Kp.trans k3.wide k4 |>.dropAll (fun b hb => .inr (by rw [List.mem_singleton.mp hb]; exact fL0)), fL0, hL4, dbs⟩
    · rintro σ H2 ⟨Fb, as, o4, o5, o6, o7, o8, rfl, k2, fFb, hFb, ds⟩
      rw [List.length_map, List.take_length] at ds
      walk_at "gs"
      exact k Fb as H2 fFb k2 hFb ds

/-! ### the law's own cost -/
def sp_law_cost (K : PySem.W.Frag) : Sp := fun vs H Q _ => ∃ (W d : Addr) (rs prs : List (Int × Int)), vs = [.ref W, .ref d] ∧ LD K H W (rs.map d2) ∧ rs.length ≤ 10000 ∧ H d = some (.dK (prs.map kN)) ∧ (∀ q ∈ rs, q.1 ∈ prs.map (·.1) ∧ q.2 ∈ prs.map (·.1)) ∧ ∀ H', Kp [] H H' → Q (.int (cst (look prs) rs : Nat)) H'
theorem sc_law_cost : FnScope ["_law_rows", "_law_keeping", "_law_low", "_law_high"] ["_law_rows", "_law_keeping"] (defScope s_law_cost) :=
  ⟨rfl, rfl, rfl, by decide +kernel, rfl, by decide +kernel, by decide +kernel⟩
theorem ok_law_cost {P : Program} {w : World} {K : PySem.W.Frag} {mg : Str → Option Value} {base : Heap} (T : Txt K mg) :
    FnG P w K mg base 1 T.a_law_cost T.d_law_cost ["_law_rows", "_law_keeping"] (sp_law_cost K) := by
  refine okD T.F_law_cost sc_law_cost (fun vs H Q E h => ?_) (fun cdv A outer s H vs Q E hr h => ?_)
  · first
      | (obtain ⟨_, rfl, _⟩ := h; rfl)
      | (obtain ⟨_, _, rfl, _⟩ := h; rfl)
      | (obtain ⟨_, _, _, rfl, _⟩ := h; rfl)
      | (obtain ⟨_, _, _, _, rfl, _⟩ := h; rfl)
      | (obtain ⟨_, _, _, _, _, rfl, _⟩ := h; rfl)
      | (obtain ⟨_, _, _, _, _, _, rfl, _⟩ := h; rfl)
      | (obtain ⟨_, _, _, _, _, _, _, rfl, _⟩ := h; rfl)
      | (obtain ⟨_, _, _, _, _, _, _, _, rfl, _⟩ := h; rfl)
      | (obtain ⟨_, _, _, _, _, _, _, _, _, rfl, _⟩ := h; rfl)
      | (obtain ⟨_, _, _, _, _, _, _, _, _, _, rfl, _⟩ := h; rfl)
      | (obtain ⟨_, _, _, _, _, _, _, _, _, _, _, rfl, _⟩ := h; rfl)
      | (obtain ⟨_, _, _, _, _, _, _, _, _, _, _, _, rfl, _⟩ := h; rfl)
      | (obtain ⟨_, _, _, _, _, _, _, _, _, _, _, _, _, rfl, _⟩ := h; rfl)
      | (obtain ⟨_, _, _, _, _, _, _, _, _, _, _, _, _, _, rfl, _⟩ := h; rfl)
      | (obtain ⟨_, _, _, _, _, _, _, _, _, _, _, _, _, _, _, rfl, _⟩ := h; rfl)
      | (obtain ⟨_, _, _, _, _, _, _, _, _, _, _, _, _, _, _, _, rfl, _⟩ := h; rfl)
      | (obtain ⟨_, _, _, _, _, _, _, _, _, _, _, _, _, _, _, _, _, rfl, _⟩ := h; rfl)
      | (obtain ⟨_, _, _, _, _, _, _, _, _, _, _, _, _, _, _, _, _, _, rfl, _⟩ := h; rfl)
      | (obtain ⟨_, _, _, _, _, _, _, _, _, _, _, _, _, _, _, _, _, _, _, rfl, _⟩ := h; rfl)
  · obtain ⟨W, d, rs, prs, rfl, ld, lr, hd, hk, k⟩ := h
    obtain ⟨us, hW, ua⟩ := id ld
    have lu := dpa_len ua
    rw [List.length_map] at lu
    have cl : ∀ l : List (Int × Int), cst (look prs) l ≤ l.length := fun l => List.length_filter_le (fun q : Int × Int => !decide (look prs q.1 = look prs q.2)) l
    refine ⟨_, (pss_one (ps_ret (pe_callB (k_len (K := K) rfl) (by rfl) T.n_len (by decide +kernel) (pa_cons (pe_lc (own := [("_law_low", 2), ("_law_high", 3)]) (g := (gTup K 2 (gCons (gName 2) (gCons (gName 3) gNil)))) rfl sc_law_cost.nd (k_plist (K := K) rfl (pv 0)) (blkOk_by (own := [("_law_low", 2), ("_law_high", 3)]) (N := ["_law_rows", "_law_keeping", "_law_low", "_law_high"]) (sc := defScope s_law_cost) (by decide +kernel)) (fun _ _ _ _ _ => (k_gtup (K := K) 2 rfl rfl (pgs_cons (pg_name (i := 2) sc_law_cost.nd rfl (Or.inl rfl)) (pgs_cons (pg_name (i := 3) sc_law_cost.nd rfl (Or.inl rfl)) pgs_nil)))) (fun _ _ _ _ _ => (pts_one (pt_cmpR (k_ne (K := K) rfl hr.r.units) (pe_dget (u1 hr.r.units) (pv 1) (pv 2) (fun _ _ => rfl)) (pe_dget (u1 hr.r.units) (pv 1) (pv 3) (fun _ _ => rfl)) (nomark _)))) (fun _ _ _ _ _ => (pv 2))) pa_nil)))), ?_⟩
    dsimp only [cxOf, st_1, st_2, st_3, st_4, st_5, st_6, List.length_cons, List.length_nil, List.replicate_succ, List.replicate_zero, Nat.reduceAdd, Nat.reduceSub]
    walk_at "gs"
    refine i_elts (SqL.of hW) (fun R i H' => Kp [] H H' ∧ ∃ ys, H' R = some (.lst ys) ∧ ys.length = cst (look prs) (rs.take i)) ?_ ?_ ?_ ?_
    · intro R fR
      exact ⟨Kp.new fR, [], upd_same, rfl⟩
    · rintro R i H' fR _ ⟨kk, _⟩
      exact kk.seqL not_nil (SqL.of hW)
    · rintro R i y H' fR hy ⟨kk, ys, hR, ly⟩
      obtain ⟨vs', hv, va⟩ := ld.kp kk (imms_d2 _) not_nil
      rw [kk.at_ _ _ hW not_nil] at hv
      cases hv
      obtain ⟨q, u, hq, rfl, hu⟩ := dpa_pair va hy
      have hqm := List.mem_of_getElem? hq
      have m1 := (look_mem (hk q hqm).1).2
      have m2 := (look_mem (hk q hqm).2).2
      have hd' := kk.at_ _ _ hd not_nil
      have step := filter_step (f := fun q : Int × Int => !decide (look prs q.1 = look prs q.2)) hq
      have l1 := cl (rs.take i)
      have l2 : (rs.take i).length ≤ rs.length := by rw [List.length_take]; omega
      walk_at "gs"
      refine i_dg hd' m1 ?_
      walk_at "gs"
      refine i_dg hd' m2 ?_
      walk_at "gs"
      refine i_decN (fun c => ?_) (fun c => ?_)
      · walk_at "gs"
        refine ⟨_, hR, small_sz (by omega), Kp.upd kk fR, _, upd_same, ?_⟩
        rw [List.length_append, ly]
        unfold cst
        rw [step, if_pos (by simpa using c), List.length_append]
        rfl
      · refine ⟨kk, ys, hR, ?_⟩
        rw [ly]
        unfold cst
        rw [step, if_neg (by simpa using c), List.append_nil]
    rintro R H2 fR ⟨k2, ys, hR, ly⟩
    rw [show us.length = rs.length from lu, List.take_length] at ly
    have hsR : SqL K H2 R ys := SqL.of hR
    walk_at "gs"
    rw [ly]
    exact k _ k2

/-! ### the law's own least, by all keepings -/
def costF (rs : List (Int × Int)) (q : List (Int × Int)) : Int := ((cst (look q) rs : Nat) : Int)
def sp_law_least (K : PySem.W.Frag) : Sp := fun vs H Q _ => ∃ (W d F : Addr) (rs prs : List (Int × Int)) (fs nums : List Int), vs = [.ref W, .ref d, .ref F] ∧ LD K H W (rs.map d2) ∧ rs.length ≤ 10000 ∧ H d = some (.dK (prs.map kN)) ∧ H F = some (.lst (fs.map V.int)) ∧ (prs.map (·.1) ++ fs).Nodup ∧ prs ≠ [] ∧ prs.length ≤ 12 ∧ fs.length ≤ 4 ∧ NumsOf prs nums ∧ (∀ q ∈ rs, q.1 ∈ prs.map (·.1) ++ fs ∧ q.2 ∈ prs.map (·.1) ++ fs) ∧
  ∀ R B m x as H', (∀ n ∈ nums, n < x) → H' R = some (.tup [.int m, .ref B]) → H' B = some (.lst (as.map V.ref)) → DsAt H' as ((allQ (nums ++ [x]) [prs] fs).filter fun q => decide (costF rs q = m)) → (∃ q ∈ allQ (nums ++ [x]) [prs] fs, costF rs q = m) → (∀ q ∈ allQ (nums ++ [x]) [prs] fs, m ≤ costF rs q) → Fr H R → Fr H B → Kp [] H H' → Q (.ref R) H'
theorem sc_law_least : FnScope ["_law_rows", "_law_numbers_here", "_law_free", "_law_some", "_law_found", "_law_least_here", "_law_one"] ["_law_rows", "_law_numbers_here", "_law_free"] (defScope s_law_least) :=
  ⟨rfl, rfl, rfl, by decide +kernel, rfl, by decide +kernel, by decide +kernel⟩
theorem ok_law_least {P : Program} {w : World} {K : PySem.W.Frag} {mg : Str → Option Value} {base : Heap} (T : Txt K mg) :
    FnG P w K mg base 2 T.a_law_least T.d_law_least ["_law_rows", "_law_numbers_here", "_law_free"] (sp_law_least K) := by
  refine okD T.F_law_least sc_law_least (fun vs H Q E h => ?_) (fun cdv A outer s H vs Q E hr h => ?_)
  · first
      | (obtain ⟨_, rfl, _⟩ := h; rfl)
      | (obtain ⟨_, _, rfl, _⟩ := h; rfl)
      | (obtain ⟨_, _, _, rfl, _⟩ := h; rfl)
      | (obtain ⟨_, _, _, _, rfl, _⟩ := h; rfl)
      | (obtain ⟨_, _, _, _, _, rfl, _⟩ := h; rfl)
      | (obtain ⟨_, _, _, _, _, _, rfl, _⟩ := h; rfl)
      | (obtain ⟨_, _, _, _, _, _, _, rfl, _⟩ := h; rfl)
      | (obtain ⟨_, _, _, _, _, _, _, _, rfl, _⟩ := h; rfl)
      | (obtain ⟨_, _, _, _, _, _, _, _, _, rfl, _⟩ := h; rfl)
      | (obtain ⟨_, _, _, _, _, _, _, _, _, _, rfl, _⟩ := h; rfl)
      | (obtain ⟨_, _, _, _, _, _, _, _, _, _, _, rfl, _⟩ := h; rfl)
      | (obtain ⟨_, _, _, _, _, _, _, _, _, _, _, _, rfl, _⟩ := h; rfl)
      | (obtain ⟨_, _, _, _, _, _, _, _, _, _, _, _, _, rfl, _⟩ := h; rfl)
      | (obtain ⟨_, _, _, _, _, _, _, _, _, _, _, _, _, _, rfl, _⟩ := h; rfl)
      | (obtain ⟨_, _, _, _, _, _, _, _, _, _, _, _, _, _, _, rfl, _⟩ := h; rfl)
      | (obtain ⟨_, _, _, _, _, _, _, _, _, _, _, _, _, _, _, _, rfl, _⟩ := h; rfl)
      | (obtain ⟨_, _, _, _, _, _, _, _, _, _, _, _, _, _, _, _, _, rfl, _⟩ := h; rfl)
      | (obtain ⟨_, _, _, _, _, _, _, _, _, _, _, _, _, _, _, _, _, _, rfl, _⟩ := h; rfl)
      | (obtain ⟨_, _, _, _, _, _, _, _, _, _, _, _, _, _, _, _, _, _, _, rfl, _⟩ := h; rfl)
  · obtain ⟨W, d, F, rs, prs, fs, nums, rfl, ld, lr, hd, hF, nd, nep, lp, lf, nof, hends, k⟩ := h
    have lnu := nof.len
    have nen := nof.ne nep
    have cl_Ties := T.cl_Ties
    have na_Ties_near := T.na_Ties_near
    have na_Ties_own_ever := T.na_Ties_own_ever
    have na_Ties_own_living := T.na_Ties_own_living
    refine ⟨_, (pss_cons (ps_set (i := 3) sc_law_least.nd rfl (Or.inl rfl) (pe_callB (k_sortedSet (w := w) rfl rfl) (by rfl) T.n_sorted (by decide +kernel) (pa_cons (pe_callTy (k_setL2 (K := K) (w := w) rfl rfl rfl) (by rfl) T.n_set (by decide +kernel) (pa_cons (pe_listVals rfl (by rfl) T.n_list (pv 1)) pa_nil)) pa_nil)))
      (pss_cons (ps_set (i := 4) sc_law_least.nd rfl (Or.inl rfl) (d1 (ok_law_all T) (hr.mono (by decide)) (by rfl) T.m_law_all T.F_law_all.kp T.b_law_all passL (pa_cons (pv 1) (pa_cons (pv 2) (pa_cons (pe_op (k_add (K := K) rfl) (pv 3) (pe_lst (pa_cons (pe_op (k_add (K := K) rfl) (pe_ix (k_ix (K := K) rfl) (pv 3) (pe_un un_neg pe_int) (fun _ _ => rfl)) pe_int) pa_nil))) pa_nil)))))
      (pss_cons (ps_set (i := 5) sc_law_least.nd rfl (Or.inr rfl) (pe_callB (k_min1 (K := K) rfl rfl) (by rfl) T.n_min (by decide +kernel) (pa_cons (pe_lc (own := [("_law_one", 6)]) (g := (gName 6)) (tt := tYes) rfl sc_law_least.nd (k_plist (K := K) rfl (pv 4)) (blkOk_by (own := [("_law_one", 6)]) (N := ["_law_rows", "_law_numbers_here", "_law_free", "_law_some", "_law_found", "_law_least_here", "_law_one"]) (sc := defScope s_law_least) (by decide +kernel)) (fun _ _ _ _ _ => (pg_name (i := 6) sc_law_least.nd rfl (Or.inl rfl))) (fun _ _ _ _ _ => pts_nil) (fun _ _ _ _ _ => (d1 (ok_law_cost T) (hr.mono (by decide)) (by rfl) T.m_law_cost T.F_law_cost.kp T.b_law_cost passL (pa_cons (pv 0) (pa_cons (pv 6) pa_nil))))) pa_nil)))
      (pss_one (ps_ret (pe_tup (pa_cons (pv 5) (pa_cons (pe_lc (own := [("_law_one", 6)]) (g := (gName 6)) rfl sc_law_least.nd (k_plist (K := K) rfl (pv 4)) (blkOk_by (own := [("_law_one", 6)]) (N := ["_law_rows", "_law_numbers_here", "_law_free", "_law_some", "_law_found", "_law_least_here", "_law_one"]) (sc := defScope s_law_least) (by decide +kernel)) (fun _ _ _ _ _ => (pg_name (i := 6) sc_law_least.nd rfl (Or.inl rfl))) (fun _ _ _ _ _ => (pts_one (pt_cmpR (k_eq (K := K) rfl hr.r.units) (d1 (ok_law_cost T) (hr.mono (by decide)) (by rfl) T.m_law_cost T.F_law_cost.kp T.b_law_cost passL (pa_cons (pv 0) (pa_cons (pv 6) pa_nil))) (pv 5) (nomark _)))) (fun _ _ _ _ _ => (pv 6))) pa_nil)))))))), ?_⟩
    dsimp only [cxOf, st_1, st_2, st_3, st_4, st_5, st_6, List.length_cons, List.length_nil, List.replicate_succ, List.replicate_zero, Nat.reduceAdd, Nat.reduceSub]
    walk_at "gs"
    refine i_listVals ?_
    walk_at "gs"
    refine ⟨d, _, rfl, hd, fun V1 fV => ?_⟩
    rw [List.map_map, show ((fun x : Key × V => x.2) ∘ kN) = V.int ∘ (fun q : Int × Int => q.2) from rfl, ← List.map_map]
    have kV := Kp.new (ws := []) (o := HO.lst ((prs.map (·.2)).map V.int)) fV
    have hV := fresh_at (o := HO.lst ((prs.map (·.2)).map V.int)) fV
    walk_at "gs"
    refine ⟨V1, prs.map (·.2), rfl, SqL.of hV, by rw [List.length_map]; omega, fun Sa ca fSa hca => ?_⟩
    have kSa := Kp.new (ws := []) (o := L2.SetO w Sa (fun j => decide (j ∈ prs.map (·.2))) ca) fSa
    have hSa := fresh_at (o := L2.SetO w Sa (fun j => decide (j ∈ prs.map (·.2))) ca) fSa
    have lca : ca < 64 := by
      have := hca _ fun x hx => hx
      rw [List.length_map] at this
      omega
    walk_at "gs"
    refine ⟨Sa, _, ca, rfl, hSa, lca, fun ns N sm mem lm fN => ?_⟩
    have fN : Fr _ N := ⟨fN⟩
    have kN1 := Kp.new (ws := []) (o := HO.lst (ns.map V.int)) fN
    have hN := fresh_at (o := HO.lst (ns.map V.int)) fN
    have ens : ns = nums := lt_uniq sm nof.1 fun x => by rw [mem, nof.2, decide_eq_true_eq]
    subst ens
    have k1 := Kp.trans kV (Kp.trans kSa kN1)
    obtain ⟨H1, e1⟩ : ∃ H1, H1 = upd (upd (upd H V1 (.lst ((prs.map (·.2)).map V.int))) Sa (L2.SetO w Sa (fun j => decide (j ∈ prs.map (·.2))) ca)) N (.lst (ns.map V.int)) := ⟨_, rfl⟩
    rw [← e1] at k1 hN ⊢
    obtain ⟨ni, nl, enl⟩ : ∃ a b, ns = a ++ [b] := list_last nen
    have hat : atI (ns.map V.int) (-1) = some (.int nl) := by
      rw [enl, List.map_append]
      exact atI_last _ _
    have hx : ∀ n ∈ ns, n < nl + 1 := fun n hn => by
      rw [enl] at hn
      rcases List.mem_append.mp hn with h | h
      · have s := sm
        rw [enl] at s
        have := (List.pairwise_append.mp s).2.2 n h nl (List.mem_singleton.mpr rfl)
        omega
      · rw [List.mem_singleton.mp h]
        omega
    walk_at "gs"
    refine i_new fun Y fY => ?_
    have kY := Kp.new (ws := []) (o := HO.lst [.int (nl + 1)]) fY
    have hN2 := kY.at_ _ _ hN not_nil
    walk_at "gs"
    refine i_new fun Z fZ => ?_
    have eZ : ns.map V.int ++ [V.int (nl + 1)] = (ns ++ [nl + 1]).map V.int := snoc_int'
    rw [eZ]
    have kZ := Kp.new (ws := []) (o := HO.lst ((ns ++ [nl + 1]).map V.int)) fZ
    have hZ := fresh_at (o := HO.lst ((ns ++ [nl + 1]).map V.int)) fZ
    have k12 := Kp.trans k1 (Kp.trans kY kZ)
    obtain ⟨H2, e2⟩ : ∃ H2, H2 = upd (upd H1 Y (.lst [.int (nl + 1)])) Z (.lst ((ns ++ [nl + 1]).map V.int)) := ⟨_, rfl⟩
    rw [← e2] at k12 hZ ⊢
    have pw : (ns ++ [nl + 1]).length ^ fs.length ≤ 100000 := by
      rw [List.length_append, List.length_singleton]
      exact Nat.le_trans (Nat.pow_le_pow_right (by omega) lf) (Nat.le_trans (Nat.pow_le_pow_left (show ns.length + 1 ≤ 13 by omega) 4) (by decide))
    walk_at "gs"
    refine ⟨d, F, Z, prs, fs, ns ++ [nl + 1], rfl, k12.at_ _ _ hd not_nil, k12.at_ _ _ hF not_nil, hZ, nd, by omega, by omega, by simp, pw, fun Fa as H3 fFa k3 hFa ds => ?_⟩
    obtain ⟨A, eA⟩ : ∃ A, A = allQ (ns ++ [nl + 1]) [prs] fs := ⟨_, rfl⟩
    have lA : A.length ≤ 100000 := by
      rw [eA, allQ_len, List.length_singleton, Nat.one_mul]
      exact pw
    have neA : A ≠ [] := fun e => by
      have e2 := congrArg List.length e
      rw [eA, allQ_len, List.length_singleton, Nat.one_mul] at e2
      have : 0 < (ns ++ [nl + 1]).length ^ fs.length := Nat.pow_pos (by simp)
      simp only [List.length_nil] at e2
      omega
    have kyA : ∀ q ∈ A, q.map (·.1) = prs.map (·.1) ++ fs := fun q hq => allQ_keys (by rw [← eA]; exact hq)
    rw [← eA] at ds
    have lds := ds.len
    have k13 := Kp.trans k12 k3
    have ld3 := ld.kp k13 (imms_d2 _) not_nil
    walk_at "gs"
    refine i_elts (SqL.of hFa) (fun R i H' => Kp [] H3 H' ∧ H' R = some (.lst (((A.take i).map (costF rs)).map V.int))) ?_ ?_ ?_ ?_
    · intro R fR
      exact ⟨Kp.new fR, upd_same⟩
    · rintro R i H' fR _ ⟨kk, _⟩
      exact kk.seqL not_nil (SqL.of hFa)
    · rintro R i y H' fR hy ⟨kk, hR⟩
      obtain ⟨a, ha, e⟩ := map_get hy
      subst e
      obtain ⟨q, hq, hqa⟩ := (ds.kp0 kk).get ha
      have hqm := List.mem_of_getElem? hq
      walk_at "gs"
      refine ⟨W, a, rs, q, rfl, ld3.kp kk (imms_d2 _) not_nil, lr, hqa, fun p hp => by rw [kyA q hqm]; exact hends p hp, fun H4 k4 => ?_⟩
      refine ⟨_, k4.at_ _ _ hR not_nil, small_sz (by rw [List.length_map, List.length_map, List.length_take]; omega), Kp.upd (Kp.trans kk k4) fR, ?_⟩
      rw [take_map_snoc hq, List.map_append]
      exact upd_same
    rintro G H4 fG ⟨k4, hG⟩
    rw [List.length_map, lds, List.take_length] at hG
    walk_at "gs"
    refine ⟨G, _, rfl, SqL.of hG, by rw [List.length_map]; exact List.length_pos_iff.mpr neA, fun m hm hmin => ?_⟩
    have k14 := Kp.trans k13 k4
    have hFa4 := k4.at_ _ _ hFa not_nil
    have ds4 := ds.kp0 k4
    have ld4 := ld3.kp k4 (imms_d2 _) not_nil
    walk_at "gs"
    refine i_elts (SqL.of hFa4) (fun R i H' => Kp [] H4 H' ∧ ∃ bs : List Addr, H' R = some (.lst (bs.map V.ref)) ∧ DsAt H' bs ((A.take i).filter fun q => decide (costF rs q = m))) ?_ ?_ ?_ ?_
    · intro R fR
      exact ⟨Kp.new fR, [], upd_same, by rw [List.take_zero]; trivial⟩
    · rintro R i H' fR _ ⟨kk, _⟩
      exact kk.seqL not_nil (SqL.of hFa4)
    · rintro R i y H' fR hy ⟨kk, bs, hR, dbs⟩
      obtain ⟨a, ha, e⟩ := map_get hy
      subst e
      obtain ⟨q, hq, hqa⟩ := (ds4.kp0 kk).get ha
      have hqm := List.mem_of_getElem? hq
      have step := filter_step (f := fun q : List (Int × Int) => decide (costF rs q = m)) hq
      have l1 := List.length_filter_le (fun q : List (Int × Int) => decide (costF rs q = m)) (A.take i)
      have l2 : (A.take i).length ≤ A.length := by rw [List.length_take]; omega
      have ldb := dbs.len
      walk_at "gs"
      refine ⟨W, a, rs, q, rfl, ld4.kp kk (imms_d2 _) not_nil, lr, hqa, fun p hp => by rw [kyA q hqm]; exact hends p hp, fun H5 k5 => ?_⟩
      have hR5 := k5.at_ _ _ hR not_nil
      have dbs5 := dbs.kp0 k5
      have hqa5 := k5.at_ _ _ hqa not_nil
      walk_at "gs"
      refine i_dec (fun c => ?_) (fun c => ?_)
      · walk_at "gs"
        have kM : Kp [R] H5 (upd H5 R (.lst (bs.map V.ref ++ [.ref a]))) := kp_set hR5 (fun z => z)
        have nb : ∀ b ∈ bs ++ [a], b ∉ [R] := (DsAt.snoc hqa5 dbs5).ne hR5 (fun kvs e => nomatch e)
        have c : costF rs q = m := c
        refine ⟨_, hR5, small_sz (by rw [List.length_map]; omega), Kp.upd (Kp.trans kk k5) fR, bs ++ [a], by rw [List.map_append]; exact upd_same, ?_⟩
        rw [step, if_pos (decide_eq_true c)]
        exact (DsAt.snoc hqa5 dbs5).kp kM nb
      · have c : ¬ costF rs q = m := c
        refine ⟨Kp.trans kk k5, bs, hR5, ?_⟩
        rw [step, if_neg (by simpa using c), List.append_nil]
        exact dbs5
    rintro B H5 fB ⟨k5, bs, hB, dbs⟩
    rw [List.length_map, lds, List.take_length] at dbs
    walk_at "gs"
    refine i_new fun R fR => ?_
    have kR := Kp.new (ws := []) (o := HO.tup [.int m, .ref B]) fR
    have k15 := Kp.trans k14 k5
    obtain ⟨q, hq, eq⟩ := List.mem_map.mp hm
    refine k R B m (nl + 1) bs _ hx upd_same (kR.at_ _ _ hB not_nil) (by rw [← eA]; exact dbs.kp0 kR) ⟨q, by rw [← eA]; exact hq, eq⟩ (fun q hq => hmin _ (List.mem_map.mpr ⟨q, by rw [eA]; exact hq, rfl⟩)) (k15.free fR) (k14.free fB) (Kp.trans k15 kR)

/-! ### a tree and its numbers, drawn -/
theorem PrsAt.upd_frz {H : Hp} {d : Addr} {ob : Obj} {u : HO} (h : H d = some (.frz ob u)) (o : HO) : ∀ {xs : List V} {ps : List (Int × Int)}, PrsAt H xs ps → PrsAt (upd H d o) xs ps
  | [], [], _ => trivial
  | _ :: _, _ :: _, ⟨⟨t, e, h1⟩, r⟩ => ⟨⟨t, e, upd_nn (fun z => by rw [z, h] at h1; cases h1) h1⟩, PrsAt.upd_frz h o r⟩
  | [], _ :: _, h => h.elim
  | _ :: _, [], h => h.elim
def sp_few (K : PySem.W.Frag) : Sp := fun vs H Q _ => ∃ p : Addr, vs = [.ref p] ∧ Pot3 H p ∧
  ∀ (R L F W d : Addr) (ever : Int) (liv fs : List Int) (rs prs : List (Int × Int)) (H' : Hp), Pot3 H' p → Kp [p] H H' → H' R = some (.tup [.int ever, .ref L, .ref F, .ref W, .ref d]) → H' L = some (.lst (liv.map V.int)) → H' F = some (.lst (fs.map V.int)) → LD K H' W (rs.map d2) → H' d = some (.dK (prs.map kN)) → prs.map (·.1) = liv → Fr H L → Fr H F → Fr H W → Fr H d →
    Drawn ever liv fs rs → fs.length ≤ 4 → liv.length ≤ 12 → ever ≤ 24 → Q (.ref R) H'
theorem sc_law_few : FnScope ["_law_pot_here", "_law_ever", "_law_living", "_law_free", "_law_rows", "_law_numbers_here", "_law_world", "_law_number"] ["_law_pot_here"] (defScope s_law_few) :=
  ⟨rfl, rfl, rfl, by decide +kernel, rfl, by decide +kernel, by decide +kernel⟩
theorem ok_law_few {P : Program} {w : World} {K : PySem.W.Frag} {mg : Str → Option Value} {base : Heap} (T : Txt K mg) :
    FnG P w K mg base 5 T.a_law_few T.d_law_few ["_law_pot_here"] (sp_few K) := by
  refine okD T.F_law_few sc_law_few (fun vs H Q E h => ?_) (fun cdv A outer s H vs Q E hr h => ?_)
  · first
      | (obtain ⟨_, rfl, _⟩ := h; rfl)
      | (obtain ⟨_, _, rfl, _⟩ := h; rfl)
      | (obtain ⟨_, _, _, rfl, _⟩ := h; rfl)
      | (obtain ⟨_, _, _, _, rfl, _⟩ := h; rfl)
      | (obtain ⟨_, _, _, _, _, rfl, _⟩ := h; rfl)
      | (obtain ⟨_, _, _, _, _, _, rfl, _⟩ := h; rfl)
      | (obtain ⟨_, _, _, _, _, _, _, rfl, _⟩ := h; rfl)
      | (obtain ⟨_, _, _, _, _, _, _, _, rfl, _⟩ := h; rfl)
      | (obtain ⟨_, _, _, _, _, _, _, _, _, rfl, _⟩ := h; rfl)
      | (obtain ⟨_, _, _, _, _, _, _, _, _, _, rfl, _⟩ := h; rfl)
      | (obtain ⟨_, _, _, _, _, _, _, _, _, _, _, rfl, _⟩ := h; rfl)
      | (obtain ⟨_, _, _, _, _, _, _, _, _, _, _, _, rfl, _⟩ := h; rfl)
      | (obtain ⟨_, _, _, _, _, _, _, _, _, _, _, _, _, rfl, _⟩ := h; rfl)
      | (obtain ⟨_, _, _, _, _, _, _, _, _, _, _, _, _, _, rfl, _⟩ := h; rfl)
      | (obtain ⟨_, _, _, _, _, _, _, _, _, _, _, _, _, _, _, rfl, _⟩ := h; rfl)
      | (obtain ⟨_, _, _, _, _, _, _, _, _, _, _, _, _, _, _, _, rfl, _⟩ := h; rfl)
      | (obtain ⟨_, _, _, _, _, _, _, _, _, _, _, _, _, _, _, _, _, rfl, _⟩ := h; rfl)
      | (obtain ⟨_, _, _, _, _, _, _, _, _, _, _, _, _, _, _, _, _, _, rfl, _⟩ := h; rfl)
      | (obtain ⟨_, _, _, _, _, _, _, _, _, _, _, _, _, _, _, _, _, _, _, rfl, _⟩ := h; rfl)
  · obtain ⟨p, rfl, hp, k⟩ := h
    have cl_Ties := T.cl_Ties
    have na_Ties_near := T.na_Ties_near
    have na_Ties_own_ever := T.na_Ties_own_ever
    have na_Ties_own_living := T.na_Ties_own_living
    refine ⟨_, (pss_cons (ps_asg (d1 (ok_law_tree T) (hr.mono (by decide)) (by rfl) T.m_law_tree T.F_law_tree.kp T.b_law_tree passL (pa_cons (pv 0) (pa_cons (pe_op (k_add (K := K) rfl) pe_int (d1 (ok_law_take T) (hr.mono (by decide)) (by rfl) T.m_law_take T.F_law_take.kp T.b_law_take passL (pa_cons (pv 0) (pa_cons pe_int pa_nil)))) (pa_cons (pe_op (k_add (K := K) rfl) pe_int (d1 (ok_law_take T) (hr.mono (by decide)) (by rfl) T.m_law_take T.F_law_take.kp T.b_law_take passL (pa_cons (pv 0) (pa_cons pe_int pa_nil)))) pa_nil)))) (k_gtup (K := K) 4 rfl rfl (pgs_cons (pg_name (i := 1) sc_law_few.nd rfl (Or.inl rfl)) (pgs_cons (pg_name (i := 2) sc_law_few.nd rfl (Or.inl rfl)) (pgs_cons (pg_name (i := 3) sc_law_few.nd rfl (Or.inl rfl)) (pgs_cons (pg_name (i := 4) sc_law_few.nd rfl (Or.inl rfl)) pgs_nil))))))
      (pss_cons (ps_set (i := 5) sc_law_few.nd rfl (Or.inl rfl) (d1 (ok_law_numbers T) (hr.mono (by decide)) (by rfl) T.m_law_numbers T.F_law_numbers.kp T.b_law_numbers passL (pa_cons (pv 0) (pa_cons (pv 2) pa_nil))))
      (pss_cons (ps_if (pt_cmpR op_gt (pe_lenSetG (by rfl) T.n_len (by rfl) T.n_set (pe_listVals rfl (by rfl) T.n_list (pv 5))) (pe_ix (k_ix (K := K) rfl) (pe_lst (pa_cons pe_int (pa_cons pe_int (pa_cons pe_int (pa_cons pe_int (pa_cons pe_int pa_nil)))))) (pe_callB (k_len (K := K) rfl) (by rfl) T.n_len (by decide +kernel) (pa_cons (pv 3) pa_nil)) (fun _ _ => rfl)) (nomark _)) (pss_one (ps_set (i := 5) sc_law_few.nd rfl (Or.inl rfl) (pe_callTy (k_dictP (K := K) rfl rfl) (by rfl) T.n_dict (by decide +kernel) (pa_cons (pe_lock (pe_lc (own := [("_law_world", 6), ("_law_number", 7)]) (g := (gTup K 2 (gCons (gName 6) (gCons (gName 7) gNil)))) (tt := tYes) rfl sc_law_few.nd (pi_items (pv 5)) (blkOk_by (own := [("_law_world", 6), ("_law_number", 7)]) (N := ["_law_pot_here", "_law_ever", "_law_living", "_law_free", "_law_rows", "_law_numbers_here", "_law_world", "_law_number"]) (sc := defScope s_law_few) (by decide +kernel)) (fun _ _ _ _ _ => (k_gtup (K := K) 2 rfl rfl (pgs_cons (pg_name (i := 6) sc_law_few.nd rfl (Or.inl rfl)) (pgs_cons (pg_name (i := 7) sc_law_few.nd rfl (Or.inl rfl)) pgs_nil)))) (fun _ _ _ _ _ => pts_nil) (fun _ _ _ _ _ => (pe_tup (pa_cons (pv 6) (pa_cons (pe_op o_mod (pv 7) pe_int) pa_nil)))))) pa_nil)))) pss_nil)
      (pss_one (ps_ret (pe_tup (pa_cons (pv 1) (pa_cons (pv 2) (pa_cons (pv 3) (pa_cons (pv 4) (pa_cons (pv 5) pa_nil))))))))))), ?_⟩
    dsimp only [cxOf, st_1, st_2, st_3, st_4, st_5, st_6, List.length_cons, List.length_nil, List.replicate_succ, List.replicate_zero, Nat.reduceAdd, Nat.reduceSub]
    walk_at "gs"
    refine use_take hp (by decide) (by decide) (fun r1 H1 r10 r11 hp1 k1 => ?_)
    walk_at "gs"
    refine use_take hp1 (by decide) (by decide) (fun r2 H2 r20 r21 hp2 k2 => ?_)
    walk_at "gs"
    refine ⟨p, 1 + r1, 2 + r2, rfl, hp2, by omega, by omega, fun R L F W ever liv fs rs H3 hp3 k3 hR hL hF ld fL fF fW dr lf ll le => ?_⟩
    have hsR : SqT K H3 R [.int ever, .ref L, .ref F, .ref W] := SqT.of hR
    have k02 := Kp.trans k1 k2
    have npL : L ≠ p := Ne.symm (hp2.ne fL)
    have npF : F ≠ p := Ne.symm (hp2.ne fF)
    have npW : W ≠ p := Ne.symm (hp2.ne fW)
    obtain ⟨D, z⟩ := dr.ex
    walk_at "gs"
    refine ⟨p, L, liv, rfl, hp3, hL, npL, z.nl, dr.ne, by omega, fun d prs H4 fd hp4 k4 hd em okp => ?_⟩
    have hL4 := k4.at_ _ _ hL (not_one npL)
    have hF4 := k4.at_ _ _ hF (not_one npF)
    have ld4 := ld.kp k4 (imms_d2 _) (not_one npW)
    have k04 := Kp.trans k02 (Kp.trans k3 k4)
    have k03 := Kp.trans k02 k3
    have lp : prs.length = liv.length := by rw [← em, List.length_map]
    walk_at "gs"
    refine i_lenSetG ?_
    refine i_listVals ?_
    walk_at "gs"
    refine ⟨d, _, rfl, hd, fun V1 fV => ?_⟩
    rw [List.map_map, show ((fun x : Key × V => x.2) ∘ kN) = V.int ∘ (fun q : Int × Int => q.2) from rfl, ← List.map_map]
    have kW1 := Kp.new (ws := []) (o := HO.lst ((prs.map (·.2)).map V.int)) fV
    have hV := fresh_at (o := HO.lst ((prs.map (·.2)).map V.int)) fV
    refine ⟨V1, prs.map (·.2), rfl, SqL.of hV, by rw [List.length_map]; omega, ?_⟩
    have hF5 := kW1.at_ _ _ hF4 not_nil
    walk_at "gs"
    refine i_new fun M fM => ?_
    have kM := Kp.new (ws := []) (o := HO.lst [.int 13, .int 13, .int 13, .int 5, .int 3]) fM
    have hM := fresh_at (o := HO.lst [.int 13, .int 13, .int 13, .int 5, .int 3]) fM
    have hF6 := kM.at_ _ _ hF5 not_nil
    have kVM := Kp.trans kW1 kM
    obtain ⟨c, hc⟩ : ∃ c : Int, atI [V.int 13, V.int 13, V.int 13, V.int 5, V.int 3] (fs.length : Int) = some (.int c) := by
      have e : fs.length = 0 ∨ fs.length = 1 ∨ fs.length = 2 ∨ fs.length = 3 ∨ fs.length = 4 := by omega
      rcases e with e | e | e | e | e <;> rw [e] <;> exact ⟨_, rfl⟩
    walk_at "gs"
    rw [List.length_map]
    refine i_ixL (SqL.of hM) hc ?_
    obtain ⟨H6, e6⟩ : ∃ H6, H6 = upd (upd H4 V1 (.lst ((prs.map (·.2)).map V.int))) M (.lst [.int 13, .int 13, .int 13, .int 5, .int 3]) := ⟨_, rfl⟩
    rw [← e6] at kVM hF6 ⊢
    have hL6 := kVM.at_ _ _ hL4 not_nil
    have ld6 := ld4.kp kVM (imms_d2 _) not_nil
    have hd6 := kVM.at_ _ _ hd not_nil
    have k06 := Kp.trans k04 kVM.wide
    have fd0 : Fr H d := k03.free fd
    walk_at "gs"
    refine i_dec (fun _ => ?_) (fun _ => ?_)
    · walk_at "gs"
      refine i_lockE hd6 fun od => ?_
      refine i_lcIt ?_
      walk_at "gs"
      have kF : Kp [d] H6 (upd H6 d (.frz od (.dK (prs.map kN)))) := kp_set hd6 (fun z => z)
      refine i_pairG upd_same (fun R i H' => Kp [] (upd H6 d (.frz od (.dK (prs.map kN)))) H' ∧ ∃ ys, H' R = some (.lst ys) ∧ PrsAt H' ys ((prs.take i).map fun q => (q.1, q.2 % 3))) ?_ ?_ ?_ ?_
      · intro R fR
        exact ⟨Kp.new fR, [], upd_same, trivial⟩
      · rintro R i H' fR ⟨kk, _⟩
        exact kk.at_ _ _ upd_same not_nil
      · rintro R i ky v U H' fR hy ⟨kk, ys, hR', py⟩ fU
        obtain ⟨q, hq, e⟩ := map_get hy
        injection e with e1 e2
        subst e1 e2
        have hil := (List.getElem?_eq_some_iff.mp hq).1
        have kU := Kp.new (ws := []) (o := HO.tup [kV (.inl q.1), .int q.2]) fU
        have hU : SqT K (upd H' U (.tup [kV (.inl q.1), .int q.2])) U [.int q.1, .int q.2] := SqT.of (fresh_at fU)
        have hR3 := kU.at_ _ _ hR' not_nil
        have py3 := py.kp kU
        have kk3 := Kp.trans kk kU
        have ly := py.len
        rw [List.length_map, List.length_take] at ly
        obtain ⟨H7, e7⟩ : ∃ H7, H7 = upd H' U (.tup [kV (.inl q.1), .int q.2]) := ⟨_, rfl⟩
        rw [← e7] at hU hR3 py3 kk3 ⊢
        walk_at "gs"
        refine i_new fun X fX => ?_
        have kX := Kp.new (ws := []) (o := HO.tup [.int q.1, .int (q.2 % 3)]) fX
        have hX := fresh_at (o := HO.tup [.int q.1, .int (q.2 % 3)]) fX
        have hR4 := kX.at_ _ _ hR3 not_nil
        refine ⟨_, hR4, small_sz (by omega), Kp.upd (Kp.trans kk3 kX) fR, ys ++ [.ref X], upd_same, ?_⟩
        have kR := Kp.mut (ws := [R]) (o := HO.lst (ys ++ [.ref X])) hR4 (fun z => z) (List.mem_singleton.mpr rfl)
        rw [take_map_snoc hq]
        exact PrsAt.snoc (q := (q.1, q.2 % 3)) (kR.fix _ _ hX trivial) ((py3.kp kX).kp kR)
      rintro G H7 fG ⟨k7, ys, hG, py⟩
      rw [List.length_map, List.take_length] at py
      have nGd : G ≠ d := fun e => by
        rw [e] at fG
        have := fG.e
        rw [upd_same] at this
        cases this
      refine ⟨k7.at_ _ _ upd_same not_nil, ?_⟩
      have k8 : Kp [] H6 (upd H7 d (.dK (prs.map kN))) := kp_unl hd6 (fun z => z) k7
      have hG8 := upd_nn (o := HO.dK (prs.map kN)) nGd hG
      have py8 := py.upd_frz (k7.at_ _ _ upd_same not_nil) (HO.dK (prs.map kN))
      obtain ⟨H8, e8⟩ : ∃ H8, H8 = upd H7 d (.dK (prs.map kN)) := ⟨_, rfl⟩
      rw [← e8] at k8 hG8 py8 ⊢
      have em3 : (prs.map fun q => (q.1, q.2 % 3)).map (·.1) = liv := by
        rw [List.map_map, ← em]
        rfl
      walk_at "gs"
      refine i_dictPrs hG8 py8 (by rw [em3]; exact z.nl) (i_new fun d3 fd3 => ?_)
      have kd := Kp.new (ws := []) (o := HO.dK ((prs.map fun q => (q.1, q.2 % 3)).map kN)) fd3
      have hd3 := fresh_at (o := HO.dK ((prs.map fun q => (q.1, q.2 % 3)).map kN)) fd3
      have k89 := Kp.trans k8 kd
      walk_at "gs"
      refine i_new fun T fT => ?_
      have kT := Kp.new (ws := []) (o := HO.tup [.int ever, .ref L, .ref F, .ref W, .ref d3]) fT
      have kE := Kp.trans k89 kT
      have k68 := Kp.trans k06 k8.wide
      exact k T L F W d3 ever liv fs rs _ _ ((hp4.kp0 kVM).kp0 kE) (Kp.trans k06 kE.wide) upd_same (kE.at_ _ _ hL6 not_nil) (kE.at_ _ _ hF6 not_nil) (ld6.kp kE (imms_d2 _) not_nil) (kT.at_ _ _ hd3 not_nil) em3 (k02.free fL) (k02.free fF) (k02.free fW) (k68.free fd3) dr (by omega) ll (by omega)
    · walk_at "gs"
      refine i_new fun T fT => ?_
      have kT := Kp.new (ws := []) (o := HO.tup [.int ever, .ref L, .ref F, .ref W, .ref d]) fT
      exact k T L F W d ever liv fs rs prs _ ((hp4.kp0 kVM).kp0 kT) (Kp.trans k06 kT.wide) upd_same (kT.at_ _ _ hL6 not_nil) (kT.at_ _ _ hF6 not_nil) (ld6.kp kT (imms_d2 _) not_nil) (kT.at_ _ _ hd6 not_nil) em (k02.free fL) (k02.free fF) (k02.free fW) fd0 dr (by omega) ll (by omega)

theorem small_ok' {x : Int} (h0 : 0 ≤ x) (h1 : x ≤ 1000000) : okI x := okI_of (by omega) (by omega)

theorem repr_int {K : PySem.W.Frag} {H : Hp} {Q : VK} {n : Int} (o : okI n) (q : Q (.str (PyData.int n).shown) H) : rRepr K [.int n] H Q :=
  i_repr (.int n) (decide_eq_true o) (by simp only [PyData.depth]; omega) (by simp only [cw]; decide) q
theorem rows_as {D : Int → Int → Int} {ever : Int} {liv ks : List Int} {nb nb' : Int → List Int} {rs : List (Int × Int)} (z : Tr3 D ever liv ks nb) (z' : Tr3 D ever liv ks nb') (ro : RowsOf ks nb rs) : RowsOf ks nb' rs := by
  obtain ⟨_, same⟩ := z.same z' fun _ => Iff.rfl
  refine ⟨ro.1, fun q => ?_⟩
  rw [ro.2]
  exact ⟨fun ⟨a, b, c⟩ => ⟨a, (same _ a _).mp b, c⟩, fun ⟨a, b, c⟩ => ⟨a, (same _ a _).mpr b, c⟩⟩

theorem srt_lt {l : List Int} (nd : l.Nodup) : (srt l).Pairwise (· < ·) := by
  have p := srt_perm l
  refine strict_of (.refl _) (p.nodup_iff.mpr nd) ?_
  exact (List.pairwise_mergeSort (le := fun a b : Int => decide (a ≤ b)) (fun a b c h1 h2 => decide_eq_true (Int.le_trans (of_decide_eq_true h1) (of_decide_eq_true h2))) (fun a b => by
    by_cases c : a ≤ b
    · rw [decide_eq_true c]; rfl
    · rw [decide_eq_true (show b ≤ a by omega), Bool.or_true]) l).imp fun h => of_decide_eq_true h

theorem cstI_on {f g : Int → Int} {ks : List Int} {rs : List (Int × Int)} (hr : ∀ q ∈ rs, q.1 ∈ ks ∧ q.2 ∈ ks) (e : ∀ x ∈ ks, f x = g x) : cstI f rs = cstI g rs := by
  unfold cstI
  rw [List.filter_congr fun q hq => ?_]
  rw [e _ (hr q hq).1, e _ (hr q hq).2]
theorem rows_ends {D : Int → Int → Int} {ever : Int} {liv ks : List Int} {nb : Int → List Int} {rs : List (Int × Int)} (z : Tr3 D ever liv ks nb) (ro : RowsOf ks nb rs) : ∀ q ∈ rs, q.1 ∈ ks ∧ q.2 ∈ ks := fun q hq => by
  obtain ⟨a, b, _⟩ := (ro.2 q).mp hq
  exact ⟨a, ((z.rp.adj _ a _).mp b).1⟩
theorem Lst.full {told : Int → Option Int} {nums ks : List Int} {rs : List (Int × Int)} {m : Int} (h : Lst told nums ks rs m) {g : Int → Int} (hr : ∀ q ∈ rs, q.1 ∈ ks ∧ q.2 ∈ ks) (hg : ∀ x ∈ ks, told x = some (g x)) : m = cstI g rs := by
  have h1 := h.le g fun x hx n e => by
    rw [hg x hx] at e
    injection e
  obtain ⟨f, f1, _, f3⟩ := h.got
  have := cstI_on hr fun x hx => f1 x hx (g x) (hg x hx)
  omega
theorem Lst.bnd {told : Int → Option Int} {nums ks : List Int} {rs : List (Int × Int)} {m : Int} (h : Lst told nums ks rs m) : 0 ≤ m ∧ m ≤ rs.length := by
  obtain ⟨f, _, _, e⟩ := h.got
  have := List.length_filter_le (fun q : Int × Int => !decide (f q.1 = f q.2)) rs
  unfold cstI at e
  omega
theorem Lst.more {told : Int → Option Int} {nums ks : List Int} {rs : List (Int × Int)} {m m' w n : Int} (h : Lst told nums ks rs m) (tw : told w = none) (h' : Lst (tell1 told w n) nums ks rs m') : m ≤ m' := by
  obtain ⟨f, f1, _, e⟩ := h'.got
  rw [← e]
  exact h.le f fun x hx k ek => f1 x hx k (by
    unfold tell1
    rw [if_neg fun c => by rw [c, tw] at ek; cases ek]
    exact ek)
theorem pr_take {pr prs : List (Int × Int)} {liv fs : List Int} (h1 : pr.map (·.1) = liv ++ fs) (nd : (pr.map (·.1)).Nodup) (h2 : prs.map (·.1) = liv) (h3 : ∀ x ∈ liv, look pr x = look prs x) : pr.take liv.length = prs := by
  have l1 := congrArg List.length h1
  have l2 := congrArg List.length h2
  rw [List.length_map, List.length_append] at l1
  rw [List.length_map] at l2
  refine List.ext_getElem (by rw [List.length_take]; omega) fun i a b => ?_
  rw [List.getElem_take]
  have ea : pr[i].1 = liv[i] := by
    have e := List.getElem_of_eq h1 (i := i) (by rw [List.length_map]; omega)
    rw [List.getElem_map, List.getElem_append_left (by omega)] at e
    exact e
  have eb : prs[i].1 = liv[i] := by
    have e := List.getElem_of_eq h2 (i := i) (by rw [List.length_map]; omega)
    rw [List.getElem_map] at e
    exact e
  have ndp : (prs.map (·.1)).Nodup := by
    rw [h2]
    rw [h1] at nd
    exact (List.nodup_append.mp nd).1
  have e1 : look pr pr[i].1 = pr[i].2 := look_eq nd (List.getElem_mem _)
  have e2 : look prs prs[i].1 = prs[i].2 := look_eq ndp (List.getElem_mem _)
  rw [ea] at e1
  rw [eb] at e2
  exact Prod.ext (by rw [ea, eb]) (by rw [← e1, ← e2]; exact h3 _ (List.getElem_mem _))

/-! ### list(zip(x, y)), x and y lists -/
section
open PyProof PyProof.Rows PySem.Calls PySem.Spec PySem.W
variable {z TI TO i1 i2 a b : Addr}
/-- a zip of two lists, behind i pairs that are all held -/
def ZAt (h : Heap) (z TI TO i1 i2 a b : Addr) (i : Nat) : Prop := IsPair h TI (.ref i1) (.ref i2) ∧ h.IsListIter i1 a i ∧ h.IsListIter i2 b i ∧
  ((IsZip h z TI TO .none ∧ ∃ u v, IsPair h TO u v) ∨ ∃ (T : Addr) (f : Bool) (o : Obj), IsZipHeld h z TI TO T f ∧ h.get? T = some o ∧ T ≠ z ∧ T ≠ i1 ∧ T ≠ i2)
theorem ZAt.ty {s : Shared} {i : Nat} (q : ZAt s.heap z TI TO i1 i2 a b i) : s.TypeIs (.ref z) "zip" := by
  obtain ⟨_, _, _, ⟨e, _⟩ | ⟨_, _, _, e, _⟩⟩ := q
  · exact ⟨_, e, rfl⟩
  · exact ⟨_, e, rfl⟩
/-- a write at an object S that stays there -/
theorem ZAt.by {h g : Heap} {i : Nat} {S : Addr} (q : ZAt h z TI TO i1 i2 a b i) (hS : S ≠ z ∧ S ≠ TI ∧ S ≠ TO ∧ S ≠ i1 ∧ S ≠ i2) (k : ∀ c o, c ≠ S → h.get? c = some o → g.get? c = some o) (there : ∃ o, g.get? S = some o) : ZAt g z TI TO i1 i2 a b i := by
  obtain ⟨s1, s2, s3, s4, s5⟩ := hS
  obtain ⟨q1, q2, q3, q4⟩ := q
  refine ⟨k _ _ s2.symm q1, q2.at fun o e => k _ _ s4.symm e, q3.at fun o e => k _ _ s5.symm e, ?_⟩
  rcases q4 with ⟨e, u, v, e2⟩ | ⟨T, f, o, e, e2, t⟩
  · exact .inl ⟨k _ _ s1.symm e, u, v, k _ _ s3.symm e2⟩
  · by_cases c : T = S
    · obtain ⟨o', e'⟩ := there
      exact .inr ⟨T, f, o', k _ _ s1.symm e, by rw [c]; exact e', t⟩
    · exact .inr ⟨T, f, o, k _ _ s1.symm e, k _ _ c e2, t⟩
section
variable {prog : Program} {w : World} {A : Around} {E : Value → Shared → Prop} {s : Shared} {xs ys : Array Value} {i : Nat}
theorem ZAt.item {x y : Value} {Q : Option Value → Shared → Prop} (D : ZipApart z TI TO i1 i2 a b) (q : ZAt s.heap z TI TO i1 i2 a b i) (l1 : s.heap.IsList a xs) (l2 : s.heap.IsList b ys) (ex : xs[i]? = some x) (ey : ys[i]? = some y)
    (go : ∀ g, ZAt g z TI TO i1 i2 a b (i + 1) → IsPair g s.heap.objs.size x y → (∀ c o, c ∉ [z, TI, TO, i1, i2] → s.heap.get? c = some o → g.get? c = some o) → Q (some (.ref s.heap.objs.size)) { s with heap := g }) :
    wpAny (model prog w) A (pyNext (.ref z)) Q E s := by
  obtain ⟨q1, q2, q3, q4⟩ := q
  have apart : s.heap.objs.size ≠ i1 ∧ s.heap.objs.size ≠ i2 := by
    obtain ⟨_, e1, _⟩ := q2
    obtain ⟨_, e2, _⟩ := q3
    exact ⟨Nat.ne_of_gt (Heap.lt_size e1), Nat.ne_of_gt (Heap.lt_size e2)⟩
  rcases q4 with ⟨e, u, v, e2⟩ | ⟨T, f, o, e, e2, t1, t2, t3⟩
  · refine wpAny_pyNext_zip_item D e q1 e2 q2 q3 l1 l2 ex ey fun g z1 z2 z3 z4 z5 z6 z7 => go g ⟨?_, z3, z4, .inr ⟨s.heap.objs.size, false, _, z1, z5, Nat.ne_of_gt (Heap.lt_size e), apart.1, apart.2⟩⟩ z5 fun c o hc eo => ?_
    · exact z7 _ _ D.TIz D.TITO D.TIi1 D.TIi2 q1
    · simp only [List.mem_cons, List.not_mem_nil, or_false, not_or] at hc
      exact z7 c o hc.1 hc.2.2.1 hc.2.2.2.1 hc.2.2.2.2 eo
  · refine wpAny_pyNext_zip_item_held D e e2 q1 q2 q3 l1 l2 ex ey fun g z1 z3 z4 z5 z6 z7 => go g ⟨?_, z3, z4, .inr ⟨T, true, o, z1, z7 _ _ t1 t2 t3 e2, t1, t2, t3⟩⟩ z5 fun c o hc eo => ?_
    · exact z7 _ _ D.TIz D.TIi1 D.TIi2 q1
    · simp only [List.mem_cons, List.not_mem_nil, or_false, not_or] at hc
      exact z7 c o hc.1 hc.2.2.2.1 hc.2.2.2.2 eo
theorem ZAt.stop {Q : Option Value → Shared → Prop} (hh : A.handled = none) (D : ZipApart z TI TO i1 i2 a b) (q : ZAt s.heap z TI TO i1 i2 a b i) (l1 : s.heap.IsList a xs) (l2 : s.heap.IsList b ys) (en : xs[i]? = none ∨ ys[i]? = none)
    (go : ∀ g, (∀ c o, c ∉ [z, TI, TO, i1, i2] → s.heap.get? c = some o → g.get? c = some o) → Q none { s with heap := g }) : wpAny (model prog w) A (pyNext (.ref z)) Q E s := by
  obtain ⟨q1, q2, q3, q4⟩ := q
  rcases q4 with ⟨e, u, v, e2⟩ | ⟨T, f, o, e, e2, t1, t2, t3⟩
  · refine wpAny_pyNext_zip_end hh D e q1 e2 q2 q3 l1 l2 en fun g k => go g fun c o hc eo => ?_
    simp only [List.mem_cons, List.not_mem_nil, or_false, not_or] at hc
    exact k c o hc.1 hc.2.2.1 hc.2.2.2.1 hc.2.2.2.2 eo
  · refine wpAny_pyNext_zip_end_held hh D e e2 q1 q2 q3 l1 l2 en fun g k => go g fun c o hc eo => ?_
    simp only [List.mem_cons, List.not_mem_nil, or_false, not_or] at hc
    exact k c o hc.1 hc.2.2.2.1 hc.2.2.2.2 eo
theorem ZAt.self {Q : Value → Shared → Prop} (q : ZAt s.heap z TI TO i1 i2 a b i) (h : Q (.ref z) s) : wpAny (model prog w) A (pyIter (.ref z)) Q E s := by
  obtain ⟨_, _, _, ⟨e, _⟩ | ⟨_, _, _, e, _⟩⟩ := q
  · exact wpAny_pyIter_zip e h
  · have ty : s.TypeIs (.ref z) "zip" := ⟨_, e, rfl⟩
    refine wpAny_pyIter_slot ty F.slot_zip_iter (wpAny_call_entry F.slot_zip_iter ty F.entry_zip_iter (wpAny_pure ⟨_, rfl, "zip", _, ty, F.slot_zip_next.lookup, h⟩) (F.args_zip_iter_1 _))
theorem zip_no_len : typeLookup (.type "zip") "__len__" = pure none := by rw [typeLookup_type, builtinLookup_eq_fast]; kernel_rfl
theorem zip_no_hint : typeLookup (.type "zip") "__length_hint__" = pure none := by rw [typeLookup_type, builtinLookup_eq_fast]; kernel_rfl
theorem zip_room {Q : Bool → Shared → Prop} (ty : s.TypeIs (.ref z) "zip") (h : Q true s) : wpAny (model prog w) A (Builtin.List.listLengthHint (.ref z)) Q E s := by
  unfold Builtin.List.listLengthHint
  refine wpAny_bind (wpAny_specialOf ty zip_no_len ?_)
  show wpAny _ _ (specialOf (Value.ref z) "__length_hint__" >>= _) _ _ _
  refine wpAny_bind (wpAny_specialOf ty zip_no_hint ?_)
  exact wpAny_pure h
end
end
section
open PyProof PyProof.Rows PySem.Calls PySem.Spec PySem.W
/-- what list(zip(..)) has laid from the turn i on -/
structure Zd (H H' : Hp) (S : Addr) (xs ys : List V) (i : Nat) (ps : List Addr) : Prop where
  len : ps.length = min xs.length ys.length - i
  at' : ∀ j p, ps[j]? = some p → ∃ x y, xs[i + j]? = some x ∧ ys[i + j]? = some y ∧ H' p = some (.tup [x, y]) ∧ H p = none
  kept : ∀ c v, c ≠ S → H c = some v → H' c = some v
theorem zip_loop {X : Cx} {pins : List (Addr × Obj)} {σ : L2.St} {A : Around} {R : Result → Shared → Prop} {z TI TO i1 i2 a b S : Addr} {xs ys : List V} {res : Value} (hh : A.handled = none) (D : ZipApart z TI TO i1 i2 a b)
    (hS : S ∉ [z, TI, TO, i1, i2]) (aS : a ≠ S) (bS : b ≠ S) : ∀ (k i : Nat) (s : Shared) (H : Hp) (acc : List V), min xs.length ys.length - i = k → i ≤ min xs.length ys.length → Inv X pins σ H s → H a = some (.lst xs) → H b = some (.lst ys) →
    ZAt s.heap z TI TO i1 i2 a b i → H S = some (.lst acc) → acc.length = i → (∀ c ∈ [z, TI, TO, i1, i2], FpOk X pins H c ∧ c < s.heap.objs.size) →
    (∀ H' s' ps, Inv X pins σ H' s' → H' S = some (.lst (acc ++ ps.map V.ref)) → Zd H H' S xs ys i ps → R (.ok (.ret res)) s') →
    codeAny (model X.prog X.w) A (.builtin "list.extend.loop" ⟨[.ref S, .ref z, res], []⟩) R s := by
  have s5 : S ≠ z ∧ S ≠ TI ∧ S ≠ TO ∧ S ≠ i1 ∧ S ≠ i2 := by simpa using hS
  intro k
  induction k with
  | zero =>
    intro i s H acc ek hi I ha hb q hl el fp go
    obtain ⟨ia, ra, la, za⟩ := I.list (.inl (.inl ha))
    obtain ⟨ib, rb, lb, zb⟩ := I.list (.inl (.inl hb))
    have na := ra.length
    have nb := rb.length
    refine codeAny_builtin F.entry_extend_loop ?_; rw [Around.under_plainId F.plain_extend_loop _]; show wpAny _ A.in1 (pyNext (.ref z) >>= _) _ _ s
    have en : ia.toArray[i]? = none ∨ ib.toArray[i]? = none := by
      rcases (show xs.length ≤ i ∨ ys.length ≤ i by omega) with w | w
      · exact .inl (by simp; omega)
      · exact .inr (by simp; omega)
    refine wpAny_bind (q.stop (A := A.in1) hh D la.isList lb.isList en fun g kg => wpAny_pure ?_)
    refine go H _ [] (I.turnedL (t' := s.toks) kg fun c hc => (fp c hc).1) (by rw [List.map_nil, List.append_nil]; exact hl) ⟨by simp; omega, fun j p e => by simp at e, fun c v _ e => e⟩
  | succ k ih =>
    intro i s H acc ek hi I ha hb q hl el fp go
    obtain ⟨ia, ra, la, za⟩ := I.list (.inl (.inl ha))
    obtain ⟨ib, rb, lb, zb⟩ := I.list (.inl (.inl hb))
    have na := ra.length
    have nb := rb.length
    have hx : xs[i]? = some xs[i] := List.getElem?_eq_getElem (by omega)
    have hy : ys[i]? = some ys[i] := List.getElem?_eq_getElem (by omega)
    generalize xs[i] = x at hx
    generalize ys[i] = y at hy
    obtain ⟨u, hu, ru⟩ := ra.get hx
    obtain ⟨v, hv, rv⟩ := rb.get hy
    refine codeAny_builtin F.entry_extend_loop ?_; rw [Around.under_plainId F.plain_extend_loop _]; show wpAny _ A.in1 (pyNext (.ref z) >>= _) _ _ s
    refine wpAny_bind (q.item D la.isList lb.isList (x := u) (y := v) (by simpa using hu) (by simpa using hv) fun g q1 pr kg => ?_)
    have fT : H s.heap.objs.size = none := I.hok.fresh (Nat.le_refl _)
    have new : ObjOk X.prog X.w (upd H s.heap.objs.size (.tup [x, y])) g s.heap.objs.size (.tup [x, y]) :=
      ⟨by show 2 ≤ sizeLine; decide, [u, v], .cons ru (.cons rv .nil), ⟨_, pr, rfl, _, rfl⟩⟩
    have I1 : Inv X pins σ (upd H s.heap.objs.size (.tup [x, y])) { s with heap := g } := I.turnedNew (t' := s.toks) (ch := [z, TI, TO, i1, i2]) kg (fun c hc => (fp c hc).1) (Nat.le_refl _) new
    obtain ⟨T, eT⟩ : ∃ T, T = s.heap.objs.size := ⟨_, rfl⟩
    have lS : S < s.heap.objs.size := by
      obtain ⟨_, _, _, _, w⟩ := I.hok S _ hl
      exact Heap.lt_size w
    have gT : T < g.objs.size := by
      rw [eT]
      exact Heap.lt_size pr
    have oth : ∀ c, c ≠ T → ∀ w, H c = some w → upd H T (.tup [x, y]) c = some w := fun c hc w e => by
      rw [upd_ne hc]
      exact e
    rw [← eT] at I1 fT new ⊢
    have ST : S ≠ T := fun w => absurd lS (by rw [w, eT]; exact Nat.lt_irrefl _)
    have hl1 := oth S ST _ hl
    obtain ⟨zl, its, n, rl, ob⟩ := I1.hok S _ hl1
    have hz : its.length = i := by rw [← rl.length]; exact el
    show wpAny _ A.in1 (updateSeq S (·.push (.ref T)) >>= _) _ _ _
    refine wpAny_bind (wpAny_updateSeq (s := { s with heap := g }) ob rfl (wpAny_pure ⟨plainId_quiet F.plain_extend_loop _, ?_⟩) (by simp; omega) (by simp; omega))
    have ob2 := Heap.get?_update_self (Obj.mapSeq (·.push (Value.ref T))) ob rfl
    have I2 := I1.write (x := S) (e := S) (o := .lst (acc ++ [V.ref T])) (t' := s.toks) (h' := g.update S (Obj.mapSeq (·.push (Value.ref T)))) (by rw [hl1]; trivial) (.inl rfl)
      (fun c o hc e => (Heap.get?_update_other _ _ (Ne.symm hc)).trans e) ⟨_, ob2⟩ ⟨by simp; omega, its ++ [.ref T], _, rl.append (.cons (show RelV (V.ref T) (Value.ref T) from rfl) .nil), by simpa [Obj.mapSeq] using ob2⟩
    have keep2 : ∀ c o, c ≠ S → g.get? c = some o → (g.update S (Obj.mapSeq (·.push (Value.ref T)))).get? c = some o := fun c o hc e => (Heap.get?_update_other _ _ (Ne.symm hc)).trans e
    refine ih (i + 1) _ _ (acc ++ [V.ref T]) (by omega) (by omega) I2 ?_ ?_ (q1.by s5 keep2 ⟨_, ob2⟩) upd_same (by simp; omega) (fun c hc => ?_) fun H' s' ps J jl jz => ?_
    · rw [upd_ne aS]
      exact oth a (fun w => by rw [w, fT] at ha; cases ha) _ ha
    · rw [upd_ne bS]
      exact oth b (fun w => by rw [w, fT] at hb; cases hb) _ hb
    · obtain ⟨f1, f2⟩ := fp c hc
      have cS : c ≠ S := fun w => hS (w ▸ hc)
      have cT : c ≠ T := fun w => absurd f2 (by rw [w, eT]; exact Nat.lt_irrefl _)
      refine ⟨⟨?_, f1.2⟩, ?_⟩
      · rw [upd_ne cS, upd_ne cT]
        exact f1.1
      · show c < (g.update S _).objs.size
        rw [Heap.size_update]
        exact Nat.lt_trans f2 (by rw [← eT]; exact gT)
    · refine go H' s' (T :: ps) J (by rw [List.map_cons, List.append_cons]; exact jl) ⟨?_, fun j p e => ?_, fun c w hc e => ?_⟩
      · have := jz.len
        simp only [List.length_cons]
        omega
      · cases j with
        | zero =>
          simp only [List.getElem?_cons_zero, Option.some.injEq] at e
          subst e
          exact ⟨x, y, hx, hy, jz.kept _ _ ST.symm (by rw [upd_ne ST.symm, upd_same]), fT⟩
        | succ j =>
          simp only [List.getElem?_cons_succ] at e
          obtain ⟨x', y', e1, e2, e3, e4⟩ := jz.at' j p e
          refine ⟨x', y', by rw [← e1]; congr 1; omega, by rw [← e2]; congr 1; omega, e3, ?_⟩
          have pS : p ≠ S := fun w => by rw [w, upd_same] at e4; cases e4
          have pT : p ≠ T := fun w => by rw [w, upd_ne ST.symm, upd_same] at e4; cases e4
          rw [upd_ne pS, upd_ne pT] at e4
          exact e4
      · refine jz.kept c w hc ?_
        rw [upd_ne hc]
        exact oth c (fun q => by rw [q, fT] at e; cases e) _ e
end
section
open PyProof PyProof.Rows PySem.Calls PySem.Spec PySem.W
theorem zip_list {X : Cx} {pins : List (Addr × Obj)} {σ : L2.St} {H : Hp} {s : Shared} {A : Around} {E : Value → Shared → Prop} {Q : Value → Shared → Prop} {z TI TO i1 i2 a b : Addr} {xs ys : List V} (hh : A.handled = none) (D : ZipApart z TI TO i1 i2 a b)
    (I : Inv X pins σ H s) (ha : H a = some (.lst xs)) (hb : H b = some (.lst ys)) (q : ZAt s.heap z TI TO i1 i2 a b 0) (fp : ∀ c ∈ [z, TI, TO, i1, i2], FpOk X pins H c ∧ c < s.heap.objs.size)
    (go : ∀ H' s' S ps, Inv X pins σ H' s' → Fr H S → H' S = some (.lst (ps.map V.ref)) → Zd H H' S xs ys 0 ps → Q (.ref S) s') :
    wpAny (model X.prog X.w) A (call (.type "list") [.ref z]) Q E s := by
  obtain ⟨S, eS⟩ : ∃ S, S = s.heap.objs.size := ⟨_, rfl⟩
  have fS : H S = none := I.hok.fresh (by rw [eS]; exact Nat.le_refl _)
  have nS : S ∉ [z, TI, TO, i1, i2] := fun m => absurd (fp S m).2 (by rw [eS]; exact Nat.lt_irrefl _)
  have s5 : S ≠ z ∧ S ≠ TI ∧ S ≠ TO ∧ S ≠ i1 ∧ S ≠ i2 := by simpa using nS
  have aS : a ≠ S := fun w => by rw [w, fS] at ha; cases ha
  have bS : b ≠ S := fun w => by rw [w, fS] at hb; cases hb
  refine callType_codes (Q₁ := fun obj t => obj = .ref S ∧ t = { s with heap := s.heap.push { cls := .type "list", data := .seq #[] } }) PySem.F.called_list (PySem.F.typeCall_list_1 _) PySem.F.entry_list_init (code_list_new _ ⟨by rw [eS], rfl⟩) fun obj t ht => ?_
  obtain ⟨eo, et⟩ := ht
  subst eo et
  have ob0 : (s.heap.push { cls := .type "list", data := .seq #[] }).get? S = some { cls := .type "list", data := .seq #[] } := by rw [eS]; exact Heap.get?_push_size _ rfl
  have k0 : ∀ c o, s.heap.get? c = some o → (s.heap.push { cls := .type "list", data := .seq #[] }).get? c = some o := fun c o e => Heap.get?_push_of_some _ e
  refine ⟨⟨_, ob0, rfl⟩, PySem.F.args_list_init_2 _ _, ?_⟩
  show wpAny _ _ (do let old ← Builtin.List.listItems (.ref S); Builtin.List.listUpdate (.ref S) (fun _ => #[]); letGo old.toList.reverse; Builtin.List.listExtendWith (.ref S) (.ref z) .none) _ _ _
  refine wpAny_bind ?_
  unfold Builtin.List.listItems
  refine wpAny_bind (wpAny_seqItems ob0 rfl (wpAny_pure ?_))
  show wpAny _ _ (updateSeq S (fun _ => #[]) >>= fun _ => letGo (#[] : Array Value).toList.reverse >>= fun _ => Builtin.List.listExtendWith (.ref S) (.ref z) .none) _ _ _
  refine wpAny_bind (wpAny_updateSeq ob0 rfl ?_)
  have ob1 := Heap.get?_update_self (Obj.mapSeq (fun _ => (#[] : Array Value))) ob0 rfl
  have k1 : ∀ c o, c ≠ S → s.heap.get? c = some o → ((s.heap.push { cls := .type "list", data := .seq #[] }).update S (Obj.mapSeq (fun _ => (#[] : Array Value)))).get? c = some o :=
    fun c o hc e => (Heap.get?_update_other _ _ (Ne.symm hc)).trans (k0 c o e)
  refine wpAny_bind (wpAny_letGo ?_)
  have q1 : ZAt _ z TI TO i1 i2 a b 0 := q.by s5 k1 ⟨_, ob1⟩
  unfold Builtin.List.listExtendWith
  refine wpAny_bind (wpAny_typeOf (T := "zip") q1.ty ?_)
  have n1 : Builtin.List.listSameRef (.ref S) (.ref z) = false := by simp [Builtin.List.listSameRef, s5.1]
  have n2 : (Value.type "zip" == Value.type "list") = false := by decide
  have n3 : (Value.type "zip" == Value.type "tuple") = false := by decide
  simp only [n1, n2, n3, Bool.or_false, Bool.false_eq_true, if_false]
  refine wpAny_bind (q1.self (wpAny_bind (wpAny_holding (zip_room q1.ty ?_))))
  simp only [Bool.true_or, if_true]
  refine wpAny_bind (wpAny_rule (wpAny_bind ?_))
  show wpAny _ _ (updateSeq S (fun v => v.push .none) >>= fun _ => updateSeq S (fun v => v.pop)) _ _ _
  refine wpAny_bind (wpAny_updateSeq ob1 rfl ?_)
  have ob2 := Heap.get?_update_self (Obj.mapSeq (fun v => v.push Value.none)) ob1 rfl
  refine wpAny_updateSeq (hz := by seq_fits) ob2 rfl ?_
  have ob3 := Heap.get?_update_self (Obj.mapSeq (fun v => v.pop)) ob2 rfl
  have k3 := fun c o (hc : c ≠ S) (e : s.heap.get? c = some o) => (Heap.get?_update_other _ (Obj.mapSeq (fun v => v.pop)) (Ne.symm hc)).trans ((Heap.get?_update_other _ (Obj.mapSeq (fun v => v.push Value.none)) (Ne.symm hc)).trans (k1 c o hc e))
  have q3 : ZAt _ z TI TO i1 i2 a b 0 := q.by s5 k3 ⟨_, ob3⟩
  have ne : ∀ c o, s.heap.get? c = some o → c ≠ S := fun c o e => by
    rw [eS]
    exact Nat.ne_of_lt (Heap.lt_size e)
  have I3 := I.laid (a := S) (o := .lst []) (t' := s.toks) (fun c o e => k3 c o (ne c o e) e) (by rw [eS]; exact Nat.le_refl _) ⟨Nat.zero_le _, [], _, .nil, ob3⟩
  refine wpAny_pure ⟨plainId_quiet F.plain_extend_loop _, ?_⟩
  refine zip_loop (A := A.in1) hh D nS aS bS _ 0 _ _ [] rfl (Nat.zero_le _) I3 (by rw [upd_ne aS]; exact ha) (by rw [upd_ne bS]; exact hb) q3 upd_same rfl (fun c hc => ?_) fun H' s' ps J jl jz => ?_
  · obtain ⟨f1, f2⟩ := fp c hc
    have cS : c ≠ S := fun w => nS (w ▸ hc)
    refine ⟨⟨by rw [upd_ne cS]; exact f1.1, f1.2⟩, ?_⟩
    show c < (Heap.update _ _ _).objs.size
    rw [Heap.size_update, Heap.size_update, Heap.size_update, Heap.size_push]
    exact Nat.lt_succ_of_lt f2
  · refine ⟨rfl, go H' s' S ps J ⟨fS⟩ jl ⟨jz.len, fun j p e => ?_, fun c w hc e => jz.kept c w hc (by rw [upd_ne hc]; exact e)⟩⟩
    obtain ⟨x, y, e1, e2, e3, e4⟩ := jz.at' j p e
    refine ⟨x, y, e1, e2, e3, ?_⟩
    have pS : p ≠ S := fun w => by rw [w, upd_same] at e4; cases e4
    rw [upd_ne pS] at e4
    exact e4
end
section
open PyProof PyProof.Rows PySem.Calls PySem.Spec PySem.W
variable {X : Cx}
def LZip (vs : List V) (H1 : Hp) (Q : VK) : Prop := ∃ (a b : Addr) (xs ys : List V), vs = [.ref a, .ref b] ∧ H1 a = some (.lst xs) ∧ H1 b = some (.lst ys) ∧ ∀ (H' : Hp) (S : Addr) (ps : List Addr), Fr H1 S → H' S = some (.lst (ps.map V.ref)) → Zd H1 H' S xs ys 0 ps → Q (.ref S) H'
def tListZip (ta : TA) : TE := fun σ H Q => ta σ H fun vs H1 => LZip vs H1 Q
theorem i_listZip {ta : TA} {σ : L2.St} {H : Hp} {Q : VK} (h : ta σ H fun vs H1 => LZip vs H1 Q) : tListZip ta σ H Q := h
theorem pe_listZip {e e2 : Expr} {ta : TA} {p p2 pos pos2 : Pos} (calm : X.calm = true) (hg : Gl X "list") (hm : X.mg "list" = none) (hg2 : Gl X "zip") (hm2 : X.mg "zip" = none) (ha : PA X [e, e2] ta)
    (hs : starEach [e, e2] X.env = (false, eval e X.env) :: starEach [e2] X.env := by rfl) (hpl : (backTo pos2 (starEach [e2] X.env)).any (·.1) = false := by rfl)
    (one : starEach [Expr.Call (.Name "zip" p2) [e, e2] [] pos2] X.env = (false, eval (Expr.Call (.Name "zip" p2) [e, e2] [] pos2) X.env) :: starEach [] X.env := by rfl) :
    PE X (.Call (.Name "list" p) [.Call (.Name "zip" p2) [e, e2] [] pos2] [] pos) (tListZip ta) := by
  refine ⟨fun pins s σ H Q I q0 => ?_⟩
  refine Call_ (ld_blt I hg hm boot_list (PyProof.Rows.callWith_type1 (PyProof.Rows.args_cons ?_ one) one rfl))
  refine Call_ (ld_blt I hg2 hm2 PyProof.Rows.boot_zip (PyProof.Rows.callWith_type1 (thn (ha.run pos2 pins s σ H _ I q0) fun us s1 w => ?_) hs hpl))
  obtain ⟨vs, H1, I1, r1, a, b, xs, ys, ev, ea, eb, q⟩ := w
  subst ev
  obtain ⟨u1, u2, rfl, r2, r3⟩ := vals2 r1
  obtain rfl : u1 = Value.ref a := r2
  obtain rfl : u2 = Value.ref b := r3
  obtain ⟨ia, va, la, za⟩ := I1.list (.inl (.inl ea))
  obtain ⟨ib, vb, lb, zb⟩ := I1.list (.inl (.inl eb))
  refine call_zip_2 la.isList lb.isList fun g w1 w2 w3 w4 w5 w6 kg => PyProof.Rows.args_nil ?_
  have I2 : Inv X pins σ H1 { s1 with heap := g } := I1.kept (t' := s1.toks) kg
  refine zip_list (A := X.A) (I.ok.hd calm) (PySem.W.ktu_apart s1.heap.objs.size a b la.lt lb.lt) I2 ea eb ⟨w2, w4, w5, .inl ⟨w1, _, _, w3⟩⟩ (fun c hc => ?_) fun H' s' S ps J fr jl jz => ⟨.ref S, H', J, rfl, q H' S ps fr jl jz⟩
  have hle : s1.heap.objs.size ≤ c ∧ c < s1.heap.objs.size + 5 := by
    simp only [List.mem_cons, List.not_mem_nil, or_false] at hc
    rcases hc with rfl | rfl | rfl | rfl | rfl
    · exact ⟨Nat.le_add_right _ _, Nat.lt_succ_self _⟩
    · exact ⟨Nat.le_add_right _ _, Nat.add_lt_add_left (by decide) _⟩
    · exact ⟨Nat.le_add_right _ _, Nat.add_lt_add_left (by decide) _⟩
    · exact ⟨Nat.le_refl _, Nat.lt_add_of_pos_right (by decide)⟩
    · exact ⟨Nat.le_add_right _ _, Nat.add_lt_add_left (by decide) _⟩
  exact ⟨I1.fpOk hle.1 (I1.hok.fresh hle.1), by show c < g.objs.size; rw [w6]; exact hle.2⟩
end

/-! ### sorted of a list of lists of numbers -/
section
open PySem.Calls PyProof.Rows PySem.W
theorem vals_refs : ∀ {ls : List Addr} {us : List Value}, Vals (ls.map V.ref) us → us = ls.map Value.ref
  | [], _, h => by cases h; rfl
  | _ :: _, _, h => by
    cases h with
    | cons h1 h2 =>
      obtain rfl := h1
      rw [vals_refs h2]
      rfl
theorem refs_vals : ∀ ls : List Addr, Vals (ls.map V.ref) (ls.map Value.ref)
  | [] => .nil
  | _ :: ls => .cons rfl (refs_vals ls)
theorem each_refs : ∀ ls : List Addr, EachIs (fun (v : Value) (b : Addr) => v = Value.ref b) (ls.map Value.ref) ls
  | [] => .nil
  | _ :: ls => .cons rfl (each_refs ls)
theorem each_back : ∀ {us : List Value} {ls : List Addr}, EachIs (fun (v : Value) (b : Addr) => v = Value.ref b) us ls → us = ls.map Value.ref
  | _, _, .nil => rfl
  | _, _, .cons h r => by rw [h, each_back r]; rfl
theorem each_of {P : Addr → Prop} {R : Value → Addr → Prop} (h : ∀ l, P l → R (Value.ref l) l) : ∀ {ls : List Addr}, (∀ l ∈ ls, P l) → EachIs R (ls.map Value.ref) ls
  | [], _ => .nil
  | l :: ls, z => .cons (h l (z l List.mem_cons_self)) (each_of h fun m hm => z m (List.mem_cons_of_mem _ hm))
def rSortedR (K : PySem.W.Frag) : List V → Hp → VK → Prop := fun vs H Q => ∃ (a : Addr) (ls : List Addr) (k : Addr → List Int), vs = [.ref a] ∧ SqL K H a (ls.map V.ref) ∧ (∀ l ∈ ls, SqL K H l ((k l).map V.int)) ∧
  ∀ (ms : List Addr) (p : Addr), ms.Perm ls → ms.Pairwise (fun x y => k x ≤ k y) → Fr H p → Q (.ref p) (upd H p (.lst (ms.map V.ref)))
theorem k_sortedR {X : Cx} {K : PySem.W.Frag} (hK : X.K = K) (hu : X.A.units + 64 < cLine) : CallR X (.builtin "sorted") (rSortedR K) := by
  subst hK
  intro pins s σ H vs us Q I r h
  obtain ⟨a, ls, k, rfl, hs, hx, q⟩ := h
  obtain ⟨its, rv, hl, hz⟩ := I.list hs
  obtain ⟨u, rfl, ru⟩ := vals1 r
  obtain rfl : u = Value.ref a := ru
  obtain rfl := vals_refs rv
  rw [List.length_map] at hz
  refine sorted_data (R := fun (v : Value) (b : Addr) => v = Value.ref b) (bs := ls) (enc := fun l => PyData.list ((k l).map PyData.int)) hl.isList (each_refs ls) (each_of (P := fun l => l ∈ ls) (fun l hm => ?_) fun l hm => hm) (AllAlike.of fun b b' => ?_) (Sortable.others fun b => ⟨(fun e => nomatch e), (fun xs e => nomatch e)⟩) hz (fun b _ => ?_) fun out ho eo => ?_
  · exact Dp.reads I _ (.ref l) _ (dp_ints (hx l hm)) rfl
  · show alikeAll ((k b).map .int) ((k b').map .int) = true
    exact alike_ints _ _
  · have hd : (PyData.list ((k b).map PyData.int)).depth ≤ 2 := by
      simp only [PyData.depth]
      have : ∀ l : List Int, PyData.depthAll (l.map PyData.int) ≤ 1 := by
        intro l
        induction l with
        | nil => exact Nat.zero_le _
        | cons a l ih =>
          simp only [List.map_cons, PyData.depthAll, PyData.depth]
          omega
      have := this (k b)
      omega
    omega
  · rw [dataLe_rows k] at eo
    obtain rfl := each_back eo
    obtain ⟨e, he⟩ := sortedAll_at s.heap (ls.map Value.ref) ((ls.mergeSort fun p q => decide (k p ≤ k q)).map Value.ref).toArray
    have pm : (ls.mergeSort fun p q => decide (k p ≤ k q)).Perm ls := List.mergeSort_perm _ _
    have fr : H (s.heap.objs.size + 1) = none := I.hok.fresh (Nat.le_succ _)
    have hm : ((ls.mergeSort fun p q => decide (k p ≤ k q)).map V.ref).length ≤ sizeLine := by
      rw [List.length_map, pm.length_eq]
      exact hz
    have I2 := I.laid (o := .lst ((ls.mergeSort fun p q => decide (k p ≤ k q)).map V.ref)) (t' := s.toks) (fun b u hb => sortedAll_old hb) (Nat.le_succ _) ⟨hm, (ls.mergeSort fun p q => decide (k p ≤ k q)).map Value.ref, e, refs_vals _, he⟩
    refine ⟨.ref (s.heap.objs.size + 1), _, I2, rfl, q _ _ pm ((List.pairwise_mergeSort (fun x y z h1 h2 => ?_) (fun x y => ?_) ls).imp fun h => of_decide_eq_true h) ⟨fr⟩⟩
    · exact decide_eq_true (List.le_trans (of_decide_eq_true h1) (of_decide_eq_true h2))
    · have := List.le_total (k x) (k y)
      simp only [Bool.or_eq_true, decide_eq_true_eq]
      exact this
end

/-! ### d.update(e), two dicts -/
section
open PyProof PyProof.Rows PySem.Calls PySem.Spec
def rUpdD : V → List V → Hp → VK → Prop := fun x vs H Q => ∃ (a b : Addr) (kvs more : List (Key × V)), x = .ref a ∧ vs = [.ref b] ∧ a ≠ b ∧ H a = some (.dK kvs) ∧ H b = some (.dK more) ∧ kvs.length + more.length ≤ 1000000 ∧ Q .non (upd H a (.dK (mergeK kvs more)))
theorem mtd_update {X : Cx} : MtR X "dict.update" rUpdD := by
  intro pins s σ H x vs v us Q I rx rv h
  obtain ⟨a, b, kvs, more, ex, ev, ne, ha, hb, hl, q⟩ := h
  subst ex ev
  obtain rfl : v = Value.ref a := rx
  obtain ⟨u, eu, ru⟩ := vals1 rv
  subst eu
  obtain rfl : u = Value.ref b := ru
  obtain ⟨wa, la, vs1, rel1, dof1⟩ := dk_of I.hok ha
  obtain ⟨wb, lb, vs2, rel2, dof2⟩ := dk_of I.hok hb
  have l1 := rel1.length
  have l2 := rel2.length
  refine call_meetsIn PySem.F.slot_dict_update dof1.typeIs PySem.F.entry_dict_update (PySem.F.args_dict_update_2 _ _) (meets_dict_update (mixKind X.prog X.w) a b ne lb) ⟨vs1, vs2, dof1, dof2, by rw [← l1, ← l2]; exact Nat.le_trans hl (by rw [sizeLine_eq]; decide), fun g d1 d2 sb => ?_⟩
  have I2 := d_write (t' := s.toks) I (by rw [ha]; trivial) sb (by obtain ⟨ep, ob, es, got, _⟩ := d1.dictAt; exact ⟨ob, got⟩) (dk_new (by refine Nat.le_trans (length_mergeK more kvs) (Nat.le_trans hl (by rw [sizeLine_eq]; decide))) la (rel2.merge rel1) d1)
  exact ⟨.non, _, I2, rfl, q⟩
def rClrD : V → List V → Hp → VK → Prop := fun x vs H Q => ∃ (a : Addr) (kvs : List (Key × V)), x = .ref a ∧ vs = [] ∧ H a = some (.dK kvs) ∧ Q .non (upd H a (.dK []))
theorem mtd_clr {X : Cx} : MtR X "dict.clear" rClrD := by
  intro pins s σ H x vs v us Q I rx rv h
  obtain ⟨a, kvs, ex, ev, ha, q⟩ := h
  subst ex ev
  obtain rfl : v = Value.ref a := rx
  cases rv
  exact d_clear I ha fun t J => ⟨.non, _, J, rfl, q⟩
end

theorem allQ_ext {some : List Int} {prs q : List (Int × Int)} {fs ks : List Int} (h : q ∈ allQ some [prs] fs) : Ext (tl prs) ks (look q) := by
  obtain ⟨q0, h0, vs, h1, _, rfl⟩ := (allQ_mem fs _).mp h
  rw [List.mem_singleton.mp h0]
  intro x _ n e
  unfold tl at e
  by_cases c : x ∈ prs.map (·.1)
  · rw [if_pos c] at e
    injection e with e
    rw [look_app c]
    exact e
  · rw [if_neg c] at e
    cases e
theorem allQ_of {some : List Int} {prs : List (Int × Int)} {fs : List Int} {g : Int → Int} (nd : (prs.map (·.1) ++ fs).Nodup) (h1 : ∀ x ∈ prs.map (·.1), g x = look prs x) (h2 : ∀ x ∈ fs, g x ∈ some) : ∃ q ∈ allQ some [prs] fs, ∀ x ∈ prs.map (·.1) ++ fs, look q x = g x := by
  have hq : prs ++ fs.zip (fs.map g) ∈ allQ some [prs] fs := (allQ_mem fs _).mpr ⟨prs, List.mem_singleton.mpr rfl, fs.map g, List.length_map _, fun v hv => by
    obtain ⟨x, hx, rfl⟩ := List.mem_map.mp hv
    exact h2 x hx, rfl⟩
  refine ⟨_, hq, fun x hx => ?_⟩
  rcases List.mem_append.mp hx with h | h
  · rw [look_app h, h1 x h]
  · refine look_eq (by rw [allQ_keys hq]; exact nd) (List.mem_append.mpr (.inr ?_))
    obtain ⟨i, hi⟩ := List.getElem?_of_mem h
    refine List.mem_of_getElem? (i := i) ?_
    rw [List.getElem?_zip_eq_some, List.getElem?_map, hi]
    exact ⟨rfl, rfl⟩
theorem least_eq {prs : List (Int × Int)} {nums fs ks : List Int} {rs : List (Int × Int)} {x m m0 : Int} (h0 : Lst (tl prs) nums ks rs m0) (hk : prs.map (·.1) ++ fs = ks) (nd : ks.Nodup) (hends : ∀ q ∈ rs, q.1 ∈ ks ∧ q.2 ∈ ks) (h1 : ∃ q ∈ allQ (nums ++ [x]) [prs] fs, costF rs q = m) (h2 : ∀ q ∈ allQ (nums ++ [x]) [prs] fs, m ≤ costF rs q) : m = m0 := by
  subst hk
  obtain ⟨q, hq, e⟩ := h1
  have a : m0 ≤ costF rs q := h0.le _ (allQ_ext hq)
  obtain ⟨g, g1, g2, g3⟩ := h0.got
  obtain ⟨q', hq', e'⟩ := allQ_of (some := nums ++ [x]) nd (fun y hy => g1 y (List.mem_append.mpr (.inl hy)) _ (if_pos hy)) fun y hy => List.mem_append.mpr (.inl (g2 y (List.mem_append.mpr (.inr hy))))
  have b := h2 q' hq'
  have c : costF rs q' = cstI g rs := cstI_on hends e'
  omega

/-! ### the keeping told is the first of the least -/
theorem cstI_mrg {h u : Int → Int} (rs : List (Int × Int)) : cstI (fun x => u (h x)) rs ≤ cstI h rs := by
  unfold cstI
  rw [← List.countP_eq_length_filter, ← List.countP_eq_length_filter]
  refine Int.ofNat_le.mpr (List.countP_mono_left fun q _ z => ?_)
  simp only [Bool.not_eq_true', decide_eq_false_iff_not] at z ⊢
  intro e
  exact z (by rw [e])
theorem allQ_val {some : List Int} {prs q : List (Int × Int)} {fs : List Int} (nd : (prs.map (·.1) ++ fs).Nodup) (h : q ∈ allQ some [prs] fs) {w : Int} (hw : w ∈ fs) : look q w ∈ some := by
  obtain ⟨q0, h0, vs, h1, h2, e⟩ := (allQ_mem fs _).mp h
  rw [List.mem_singleton.mp h0] at e
  have hk := allQ_keys h
  have hm : w ∈ q.map (·.1) := by rw [hk]; exact List.mem_append.mpr (.inr hw)
  have hq := (look_mem hm).1
  rw [e] at hq
  rcases List.mem_append.mp hq with c | c
  · have : w ∈ prs.map (·.1) := List.mem_map.mpr ⟨_, c, rfl⟩
    exact absurd rfl ((List.nodup_append.mp nd).2.2 w this w hw)
  · rw [← e] at c
    exact h2 _ (List.of_mem_zip c).2
theorem tl_of {pr : List (Int × Int)} {y k : Int} (e : tl pr y = some k) : y ∈ pr.map (·.1) ∧ look pr y = k := by
  unfold tl at e
  split at e
  · rename_i c
    injection e with e
    exact ⟨c, e⟩
  · cases e
section
variable {nums ks : List Int} {nb : Int → List Int} {rs : List (Int × Int)} {m x : Int} {pr : List (Int × Int)} {l : Nat} {g : Int → Int}
theorem KpOf.first (kp : KpOf nums ks nb l pr) (nd : (pr.map (·.1)).Nodup) (ro : RowsOf ks nb rs) (pn : ∀ y ∈ pr.map (·.1), look pr y ∈ nums) (sk : ∀ y ∈ pr.map (·.1), y ∈ ks) (nn : nums ≠ []) (hx : ∀ n ∈ nums, n < x) (gc : cstI g rs = m) :
    ∀ (b a : List (Int × Int)), pr = a ++ b → l ≤ a.length → Lst (tl a) nums ks rs m → (∀ y ∈ a.map (·.1), g y = look pr y) → (∀ y ∈ b.map (·.1), g y ∈ nums ∨ g y = x) → (b.map fun p => look pr p.1) ≤ b.map fun p => g p.1
  | [], _, _, _, _, _, _ => List.le_refl _
  | (w, n) :: b, a, e, hl, hL, ag, gv => by
    have wm : (w, n) ∈ pr := by rw [e]; simp
    have en : look pr w = n := look_eq nd wm
    have at1 : pr[a.length]? = some (w, n) := by rw [e, List.getElem?_append_right (Nat.le_refl _), Nat.sub_self]; rfl
    have t1 : pr.take a.length = a := by rw [e, List.take_left']; rfl
    have t2 : pr.take (a.length + 1) = a ++ [(w, n)] := by
      rw [List.take_add_one, t1, at1]
      rfl
    have wk : w ∈ pr.map (·.1) := List.mem_map.mpr ⟨_, wm, rfl⟩
    have nin : n ∈ nums := by rw [← en]; exact pn w wk
    have look_a : ∀ y ∈ a.map (·.1), look a y = look pr y := fun y hy => by rw [e, look_app hy]
    have wna : w ∉ a.map (·.1) := fun h => by
      rw [e, List.map_append] at nd
      exact (List.nodup_append.mp nd).2.2 w h w List.mem_cons_self rfl
    show (look pr w :: b.map _) ≤ (g w :: b.map _)
    rw [List.cons_le_cons_iff, en]
    rcases Int.lt_trichotomy n (g w) with c | c | c
    · exact .inl c
    · refine .inr ⟨c, KpOf.first kp nd ro pn sk nn hx gc b (a ++ [(w, n)]) (by rw [List.append_assoc]; exact e) (by rw [List.length_append]; omega) ?_ (fun y hy => ?_) fun y hy => gv y (List.mem_cons_of_mem _ hy)⟩
      · have := kp.same a.length w n hl at1 rs ro m (by rw [t1]; exact hL)
        rw [t2] at this
        exact this
      · rw [List.map_append] at hy
        rcases List.mem_append.mp hy with h | h
        · exact ag y h
        · have ey : y = w := List.mem_singleton.mp h
          rw [ey, en, c]
    · exfalso
      have gin : g w ∈ nums := (gv w List.mem_cons_self).resolve_right fun e2 => by
        have := hx n nin
        omega
      refine kp.least a.length w n hl at1 (g w) gin c rs ro m (by rw [t1]; exact hL) ?_
      rw [t1]
      obtain ⟨n0, hn0⟩ := List.exists_mem_of_ne_nil _ nn
      obtain ⟨φ, eφ⟩ : ∃ φ : Int → Int, φ = fun v => if v ∈ nums then v else n0 := ⟨_, rfl⟩
      have φi : ∀ k, k ∈ nums → φ k = k := fun k hk => by
        rw [eφ]
        exact if_pos hk
      have φm : ∀ k, φ k ∈ nums := fun k => by
        rw [eφ]
        show (if k ∈ nums then k else n0) ∈ nums
        split
        · assumption
        · exact hn0
      have le1 : ∀ f, Ext (tell1 (tl a) w (g w)) ks f → m ≤ cstI f rs := fun f hf => hL.le f fun y hy k ek => hf y hy k (by
        unfold tell1
        rw [if_neg fun q => wna (by rw [← q]; exact (tl_of ek).1)]
        exact ek)
      have ex : Ext (tell1 (tl a) w (g w)) ks fun y => φ (g y) := fun y hy k ek => by
        unfold tell1 at ek
        split at ek
        · rename_i q
          injection ek with ek
          rw [q, ← ek]
          exact φi _ gin
        · obtain ⟨h1, h2⟩ := tl_of ek
          have h3 := look_a y h1
          have h4 := ag y h1
          show φ (g y) = k
          rw [h4, ← h3, h2]
          refine φi _ ?_
          rw [← h2, h3]
          exact pn y (by rw [e, List.map_append]; exact List.mem_append.mpr (.inl h1))
      refine ⟨le1, _, ex, fun y _ => φm _, ?_⟩
      have a1 := le1 _ ex
      have a2 := cstI_mrg (h := g) (u := φ) rs
      omega
end
theorem lex_first {nums ks fs : List Int} {nb : Int → List Int} {rs prs pr : List (Int × Int)} {m x : Int} (kp : KpOf nums ks nb prs.length pr) (ek : prs.map (·.1) ++ fs = ks) (nk : ks.Nodup) (ro : RowsOf ks nb rs) (hends : ∀ q ∈ rs, q.1 ∈ ks ∧ q.2 ∈ ks) (kpr : pr.map (·.1) = ks) (eto : pr.take prs.length = prs) (nof : NumsOf prs nums) (nep : prs ≠ []) (hx : ∀ n ∈ nums, n < x)
    (lst0 : Lst (tl prs) nums ks rs m) : (∃ q ∈ (allQ (nums ++ [x]) [prs] fs).filter fun q => decide (costF rs q = m), fs.map (look q) = fs.map (look pr)) ∧ ∀ q ∈ (allQ (nums ++ [x]) [prs] fs).filter fun q => decide (costF rs q = m), fs.map (look pr) ≤ fs.map (look q) := by
  have ndp : (pr.map (·.1)).Nodup := by rw [kpr]; exact nk
  have ndk : (prs.map (·.1) ++ fs).Nodup := by rw [ek]; exact nk
  have epr : pr = prs ++ pr.drop prs.length := by
    have e := (List.take_append_drop prs.length pr).symm
    rw [eto] at e
    exact e
  have edr : (pr.drop prs.length).map (·.1) = fs := by
    have e : prs.map (·.1) ++ (pr.drop prs.length).map (·.1) = prs.map (·.1) ++ fs := by rw [← List.map_append, ← epr, kpr, ek]
    exact List.append_cancel_left e
  have lkp : ∀ y ∈ prs.map (·.1), look pr y = look prs y := fun y hy => by rw [epr, look_app hy]
  have nn := nof.ne nep
  have pn : ∀ y ∈ pr.map (·.1), look pr y ∈ nums := fun y hy => by
    obtain ⟨q, hq, ey⟩ := List.mem_map.mp hy
    obtain ⟨w, n⟩ := q
    have ey : w = y := ey
    subst ey
    rw [look_eq ndp hq]
    obtain ⟨i, hi⟩ := List.getElem?_of_mem hq
    by_cases c : i < prs.length
    · rw [epr, List.getElem?_append_left c] at hi
      exact (nof.2 n).mpr (List.mem_map.mpr ⟨_, List.mem_of_getElem? hi, rfl⟩)
    · exact kp.num i w n (by omega) hi
  have full : Lst (tl pr) nums ks rs m := by
    have step : ∀ j : Nat, prs.length + j ≤ pr.length → Lst (tl (pr.take (prs.length + j))) nums ks rs m := by
      intro j
      induction j with
      | zero => intro _; rw [Nat.add_zero, eto]; exact lst0
      | succ j ih =>
        intro hj
        have hl : prs.length + j < pr.length := by omega
        exact kp.same (prs.length + j) _ _ (by omega) (List.getElem?_eq_getElem hl) rs ro m (ih (by omega))
    have le : prs.length ≤ pr.length := by rw [epr, List.length_append]; omega
    have := step (pr.length - prs.length) (by omega)
    rw [List.take_of_length_le (by omega)] at this
    exact this
  have em : m = cstI (look pr) rs := full.full hends fun y hy => if_pos (by rw [kpr]; exact hy)
  have mf : ∀ g : Int → Int, fs.map g = (pr.drop prs.length).map fun p => g p.1 := fun g => by
    conv => lhs; rw [← edr, List.map_map]
    rfl
  constructor
  · obtain ⟨q, hq, e⟩ := allQ_of (some := nums ++ [x]) ndk lkp fun y hy => List.mem_append.mpr (.inl (pn y (by rw [kpr, ← ek]; exact List.mem_append.mpr (.inr hy))))
    refine ⟨q, List.mem_filter.mpr ⟨hq, decide_eq_true ?_⟩, List.map_congr_left fun y hy => e y (List.mem_append.mpr (.inr hy))⟩
    rw [em]
    exact cstI_on hends fun y hy => e y (by rw [ek]; exact hy)
  · intro q hq
    obtain ⟨h1, h2⟩ := List.mem_filter.mp hq
    have h2 : costF rs q = m := of_decide_eq_true h2
    rw [mf, mf]
    refine KpOf.first (g := look q) (x := x) kp ndp ro pn (fun y hy => by rw [← kpr]; exact hy) nn hx h2 (pr.drop prs.length) prs epr (Nat.le_refl _) lst0 (fun y hy => ?_) fun y hy => ?_
    · have := allQ_ext (ks := ks) h1 y (by rw [← ek]; exact List.mem_append.mpr (.inl hy)) (look prs y) (if_pos hy)
      rw [this, lkp y hy]
    · rw [edr] at hy
      have := allQ_val ndk h1 hy
      rcases List.mem_append.mp this with c | c
      · exact .inl c
      · exact .inr (List.mem_singleton.mp c)
theorem lst_all {nums fs : List Int} {rs prs : List (Int × Int)} {m x : Int} (nd : (prs.map (·.1) ++ fs).Nodup) (hends : ∀ q ∈ rs, q.1 ∈ prs.map (·.1) ++ fs ∧ q.2 ∈ prs.map (·.1) ++ fs) (nof : NumsOf prs nums) (nep : prs ≠ [])
    (h1 : ∃ q ∈ allQ (nums ++ [x]) [prs] fs, costF rs q = m) (h2 : ∀ q ∈ allQ (nums ++ [x]) [prs] fs, m ≤ costF rs q) : Lst (tl prs) nums (prs.map (·.1) ++ fs) rs m := by
  obtain ⟨n0, hn0⟩ := List.exists_mem_of_ne_nil _ (nof.ne nep)
  obtain ⟨φ, eφ⟩ : ∃ φ : Int → Int, φ = fun v => if v ∈ nums then v else n0 := ⟨_, rfl⟩
  have φi : ∀ k, k ∈ nums → φ k = k := fun k hk => by
    rw [eφ]
    exact if_pos hk
  have φm : ∀ k, φ k ∈ nums := fun k => by
    rw [eφ]
    show (if k ∈ nums then k else n0) ∈ nums
    split
    · assumption
    · exact hn0
  have pin : ∀ y ∈ prs.map (·.1), look prs y ∈ nums := fun y hy => (nof.2 _).mpr (List.mem_map.mpr ⟨_, (look_mem hy).1, rfl⟩)
  have le1 : ∀ g, Ext (tl prs) (prs.map (·.1) ++ fs) g → m ≤ cstI (fun y => φ (g y)) rs := fun g hg => by
    obtain ⟨q, hq, e⟩ := allQ_of (some := nums ++ [x]) (g := fun y => φ (g y)) nd (fun y hy => by
      have := hg y (List.mem_append.mpr (.inl hy)) (look prs y) (if_pos hy)
      show φ (g y) = _
      rw [this]
      exact φi _ (pin y hy)) fun y _ => List.mem_append.mpr (.inl (φm _))
    have a := h2 q hq
    have b : costF rs q = cstI (fun y => φ (g y)) rs := cstI_on hends e
    omega
  obtain ⟨q, hq, hc⟩ := h1
  have ex := allQ_ext (ks := prs.map (·.1) ++ fs) hq
  refine ⟨fun g hg => ?_, fun y => φ (look q y), fun y hy k ek => ?_, fun y _ => φm _, ?_⟩
  · have a := le1 g hg
    have b := cstI_mrg (h := g) (u := φ) rs
    omega
  · have := ex y hy k ek
    show φ (look q y) = k
    obtain ⟨c1, c2⟩ := tl_of ek
    rw [this, ← c2]
    exact φi _ (pin y c1)
  · have a := le1 _ ex
    have b := cstI_mrg (h := look q) (u := φ) rs
    have hc : cstI (look q) rs = m := hc
    omega
/-- what is told, and what is due: alike -/
theorem told_due {nums fs liv n0 : List Int} {rs prs pr out : List (Int × Int)} {nb : Int → List Int} {m x : Int} {bs : List (List (Int × Int))} (ek : prs.map (·.1) = liv) (nk : (liv ++ fs).Nodup) (ro : RowsOf (liv ++ fs) nb rs) (hends : ∀ q ∈ rs, q.1 ∈ liv ++ fs ∧ q.2 ∈ liv ++ fs) (nof : NumsOf prs nums) (nep : prs ≠ []) (hx : ∀ n ∈ nums, n < x)
    (lst0 : Lst (tl prs) nums (liv ++ fs) rs m) (eb : bs = (allQ (nums ++ [x]) [prs] fs).filter fun q => decide (costF rs q = m)) (hn0 : n0 ∈ bs.map fun q => fs.map (look q)) (least0 : ∀ q ∈ bs, n0 ≤ fs.map (look q))
    (kpr : pr.map (·.1) = liv ++ fs) (lkp : ∀ y ∈ liv, look pr y = look prs y) (kp : KpOf nums (liv ++ fs) nb liv.length pr) (pwo : (out.map (·.1)).Pairwise (· < ·)) (memo : ∀ y, y ∈ out.map (·.1) ↔ y ∈ liv ++ fs) (lko : ∀ y ∈ liv ++ fs, look out y = look pr y) :
    (out.map (·.1)).Nodup ∧ out.length = (prs ++ fs.zip n0).length ∧ ∀ y ∈ out.map (·.1), y ∈ (prs ++ fs.zip n0).map (·.1) ∧ look (prs ++ fs.zip n0) y = look out y := by
  subst eb
  have lp : prs.length = liv.length := by rw [← ek, List.length_map]
  have nl : liv.Nodup := (List.nodup_append.mp nk).1
  have ndpr : (pr.map (·.1)).Nodup := by rw [kpr]; exact nk
  have eto : pr.take prs.length = prs := by rw [lp]; exact pr_take kpr ndpr ek lkp
  obtain ⟨⟨q, hq, e1⟩, e2⟩ := lex_first (x := x) (by rw [lp]; exact kp) (by rw [ek]) nk ro hends kpr eto nof nep hx lst0
  obtain ⟨q', hq', e3⟩ := List.mem_map.mp hn0
  have e4 : n0 = fs.map (look pr) := List.le_antisymm (by rw [← e1]; exact least0 q hq) (by rw [← e3]; exact e2 q' hq')
  have kz : (prs ++ fs.zip n0).map (·.1) = liv ++ fs := by
    rw [List.map_append, ek, zip_keys (by rw [e4, List.length_map])]
  have ndz : ((prs ++ fs.zip n0).map (·.1)).Nodup := by rw [kz]; exact nk
  have ndo : (out.map (·.1)).Nodup := pwo.imp fun {a b} lt e => by omega
  refine ⟨ndo, ?_, fun y hy => ?_⟩
  · have p1 : (out.map (·.1)).Perm (liv ++ fs) := (List.perm_ext_iff_of_nodup ndo nk).mpr memo
    have l1 := p1.length_eq
    have l2 := congrArg List.length kz
    rw [List.length_map] at l1 l2
    omega
  · have hk := (memo y).mp hy
    refine ⟨by rw [kz]; exact hk, ?_⟩
    rw [lko y hk]
    rcases List.mem_append.mp hk with h | h
    · rw [look_app (by rw [ek]; exact h), lkp y h]
    · refine look_eq ndz (List.mem_append.mpr (.inr ?_))
      obtain ⟨i, hi⟩ := List.getElem?_of_mem h
      refine List.mem_of_getElem? (i := i) ?_
      rw [List.getElem?_zip_eq_some, e4, List.getElem?_map, hi]
      exact ⟨rfl, rfl⟩

theorem dA_look {ps qs : List (Int × Int)} (nd : (ps.map (·.1)).Nodup) (hk : ∀ x ∈ ps.map (·.1), x ∈ qs.map (·.1) ∧ look qs x = look ps x) : ∀ p ∈ ps.map kN, valV (qs.map kN) p.1 = some p.2 ∧ flatB p.2 = true := fun p hp => by
  obtain ⟨r, hr, rfl⟩ := List.mem_map.mp hp
  obtain ⟨h1, h2⟩ := hk r.1 (List.mem_map.mpr ⟨r, hr, rfl⟩)
  have e := (look_mem h1).2
  rw [h2, look_eq nd hr] at e
  exact ⟨e, rfl⟩
theorem i_eqDL {H : Hp} {Q : VK} {a b : Addr} {ps qs : List (Int × Int)} (ha : H a = some (.dK (ps.map kN))) (hb : H b = some (.dK (qs.map kN))) (nd : (ps.map (·.1)).Nodup) (hl : ps.length = qs.length) (hk : ∀ x ∈ ps.map (·.1), x ∈ qs.map (·.1) ∧ look qs x = look ps x) (q : Q (.bl true) H) : rEqDA (.ref a) (.ref b) H Q :=
  ⟨a, b, _, _, rfl, rfl, ha, hb, by rw [List.length_map, List.length_map]; exact hl, dA_look nd hk, q⟩
theorem i_neDL {H : Hp} {Q : VK} {a b : Addr} {ps qs : List (Int × Int)} (ha : H a = some (.dK (ps.map kN))) (hb : H b = some (.dK (qs.map kN))) (nd : (ps.map (·.1)).Nodup) (hl : ps.length = qs.length) (hk : ∀ x ∈ ps.map (·.1), x ∈ qs.map (·.1) ∧ look qs x = look ps x) (q : Q (.bl false) H) : rNeDA (.ref a) (.ref b) H Q :=
  ⟨a, b, _, _, rfl, rfl, ha, hb, by rw [List.length_map, List.length_map]; exact hl, dA_look nd hk, q⟩
theorem i_isDict {K : PySem.W.Frag} {H : Hp} {Q : VK} {a : Addr} {kvs : List (Key × V)} (h : H a = some (.dK kvs)) (q : Q (.bl true) H) : rIsi K [.ref a, .ty "dict"] H Q := ⟨.ref a, .ty "dict", _, _, true, rfl, .ty "dict", .base (.dK h), L2.kit_ty rfl, q⟩
theorem nums_ex (prs : List (Int × Int)) : ∃ nums, NumsOf prs nums := by
  refine ⟨srt ((prs.map (·.2)).foldl addK []), srt_lt (foldK_nd _ _ .nil), fun n => ?_⟩
  rw [(srt_perm _).mem_iff, mem_foldK]
  exact ⟨fun h => h.elim (fun h => nomatch h) id, .inr⟩
/-- ties and what they were made of, in a tuple -/
structure RightAt (K : PySem.W.Frag) (C : Addr) (H : Hp) (P t W5 : Addr) : Prop where
  ex : ∃ (D : Int → Int → Int) (ps : List Addr) (ever : Int) (liv fs : List Int) (rs prs : List (Int × Int)) (nb : Int → List Int) (L F W d : Addr), H W5 = some (.tup [.int ever, .ref L, .ref F, .ref W, .ref d]) ∧ H L = some (.lst (liv.map V.int)) ∧ H F = some (.lst (fs.map V.int)) ∧ LD K H W (rs.map d2) ∧ H d = some (.dK (prs.map kN)) ∧ prs.map (·.1) = liv ∧
    TiesAt C H t ps ever liv (liv ++ fs) nb ∧ Tr3 D ever liv (liv ++ fs) nb ∧ RowsOf (liv ++ fs) nb rs ∧ FreeOf liv (liv ++ fs) fs ∧ liv ≠ [] ∧ fs.length ≤ 4 ∧ liv.length ≤ 12 ∧ ever ≤ 24 ∧ L ≠ P ∧ F ≠ P ∧ W ≠ P ∧ d ≠ P ∧ P ∉ ps
theorem RightAt.kp {K : PySem.W.Frag} {C : Addr} {H H' : Hp} {P t W5 : Addr} (h : RightAt K C H P t W5) (k : Kp [P] H H') : RightAt K C H' P t W5 := by
  obtain ⟨D, ps, ever, liv, fs, rs, prs, nb, L, F, W, d, h1, h2, h3, h4, h5, h6, h7, h8, h9, h10, h11, h12, h13, h14, n1, n2, n3, n4, n5⟩ := h
  exact ⟨D, ps, ever, liv, fs, rs, prs, nb, L, F, W, d, k.fix _ _ h1 trivial, k.at_ _ _ h2 (not_one n1), k.at_ _ _ h3 (not_one n2), h4.kp k (imms_d2 _) (not_one n3), k.at_ _ _ h5 (not_one n4), h6, h7.kp k (h7.apart n5), h8, h9, h10, h11, h12, h13, h14, n1, n2, n3, n4, n5⟩
/-- the numbers of a list of numbers -/
def ilst (H : Hp) (l : Addr) : List Int := match H l with
  | some (.lst vs) => vs.filterMap fun v => match v with
    | .int n => some n
    | _ => none
  | _ => []
theorem ilst_eq {H : Hp} {l : Addr} {ns : List Int} (h : H l = some (.lst (ns.map V.int))) : ilst H l = ns := by
  unfold ilst
  rw [h]
  show (ns.map V.int).filterMap _ = ns
  rw [List.filterMap_map]
  exact List.filterMap_some
/-- lists of numbers, one for each -/
def LsAt (H : Hp) : List Addr → List (List Int) → Prop
  | [], [] => True
  | a :: as, ns :: nss => H a = some (.lst (ns.map V.int)) ∧ LsAt H as nss
  | _, _ => False
theorem LsAt.kp {H H' : Hp} {ws : List Addr} (k : Kp ws H H') : ∀ {as : List Addr} {nss : List (List Int)}, (∀ a ∈ as, a ∉ ws) → LsAt H as nss → LsAt H' as nss
  | [], [], _, _ => trivial
  | _ :: _, _ :: _, n, ⟨h, r⟩ => ⟨k.at_ _ _ h (n _ List.mem_cons_self), LsAt.kp k (fun b hb => n b (List.mem_cons_of_mem _ hb)) r⟩
  | [], _ :: _, _, h => h.elim
  | _ :: _, [], _, h => h.elim
theorem LsAt.snoc {H : Hp} {a : Addr} {ns : List Int} (e : H a = some (.lst (ns.map V.int))) : ∀ {as : List Addr} {nss : List (List Int)}, LsAt H as nss → LsAt H (as ++ [a]) (nss ++ [ns])
  | [], [], _ => ⟨e, trivial⟩
  | _ :: _, _ :: _, ⟨a, r⟩ => ⟨a, LsAt.snoc e r⟩
  | [], _ :: _, h => h.elim
  | _ :: _, [], h => h.elim
theorem LsAt.mem {H : Hp} : ∀ {as : List Addr} {nss : List (List Int)}, LsAt H as nss → ∀ a ∈ as, ∃ ns ∈ nss, H a = some (.lst (ns.map V.int))
  | [], [], _, _, ha => nomatch ha
  | _ :: _, ns :: _, ⟨h, r⟩, a, ha => by
    rcases List.mem_cons.mp ha with rfl | ha
    · exact ⟨ns, List.mem_cons_self, h⟩
    · obtain ⟨ns', h1, h2⟩ := LsAt.mem r a ha
      exact ⟨ns', List.mem_cons_of_mem _ h1, h2⟩
  | [], _ :: _, h, _, _ => h.elim
  | _ :: _, [], h, _, _ => h.elim
theorem LsAt.mem' {H : Hp} : ∀ {as : List Addr} {nss : List (List Int)}, LsAt H as nss → ∀ ns ∈ nss, ∃ a ∈ as, H a = some (.lst (ns.map V.int))
  | [], [], _, _, ha => nomatch ha
  | a :: _, _ :: _, ⟨h, r⟩, ns, ha => by
    rcases List.mem_cons.mp ha with rfl | ha
    · exact ⟨a, List.mem_cons_self, h⟩
    · obtain ⟨b, h1, h2⟩ := LsAt.mem' r ns ha
      exact ⟨b, List.mem_cons_of_mem _ h1, h2⟩
  | [], _ :: _, h, _, _ => h.elim
  | _ :: _, [], h, _, _ => h.elim
theorem LsAt.len {H : Hp} : ∀ {as : List Addr} {nss : List (List Int)}, LsAt H as nss → as.length = nss.length
  | [], [], _ => rfl
  | _ :: _, _ :: _, h => by rw [List.length_cons, List.length_cons, LsAt.len h.2]
  | [], _ :: _, h => h.elim
  | _ :: _, [], h => h.elim
/-- what list(zip(..)) tells of two lists of numbers -/
theorem zd_prs {H H' : Hp} {S : Addr} {fs ns : List Int} {ps : List Addr} (z : Zd H H' S (fs.map V.int) (ns.map V.int) 0 ps) (e : fs.length = ns.length) : PrsAt H' (ps.map V.ref) (fs.zip ns) := by
  have main : ∀ (ps : List Addr) (qs : List (Int × Int)), ps.length = qs.length → (∀ (j : Nat) (p : Addr), ps[j]? = some p → ∃ q : Int × Int, qs[j]? = some q ∧ H' p = some (.tup [.int q.1, .int q.2])) → PrsAt H' (ps.map V.ref) qs := by
    intro ps
    induction ps with
    | nil => intro qs h _; cases qs with
      | nil => trivial
      | cons => simp at h
    | cons p ps ih => intro qs h a; cases qs with
      | nil => simp at h
      | cons q qs =>
        obtain ⟨q', e1, e2⟩ := a 0 p rfl
        simp only [List.getElem?_cons_zero, Option.some.injEq] at e1
        subst e1
        exact ⟨⟨p, rfl, e2⟩, ih qs (by simpa using h) fun j p' hj => a (j + 1) p' hj⟩
  refine main ps _ (by rw [z.len, List.length_map, List.length_map, List.length_zip]; rfl) fun j p hj => ?_
  obtain ⟨x, y, h1, h2, h3, _⟩ := z.at' j p hj
  rw [Nat.zero_add] at h1 h2
  obtain ⟨f, hf, rfl⟩ := map_get h1
  obtain ⟨n, hn, rfl⟩ := map_get h2
  exact ⟨(f, n), List.getElem?_zip_eq_some.mpr ⟨hf, hn⟩, h3⟩
theorem zd_kp {H H' : Hp} {S : Addr} {xs ys : List V} {i : Nat} {ps : List Addr} (f : Fr H S) (z : Zd H H' S xs ys i ps) : Kp [] H H' := by
  have k : ∀ c v, H c = some v → H' c = some v := fun c v e => z.kept c v (fun q => by rw [q, f.e] at e; cases e) e
  exact ⟨fun c v e _ => k c v e, fun c v e _ => k c v e, fun c v e => ⟨v, k c v e⟩⟩
theorem i_isInt {K : PySem.W.Frag} {H : Hp} {Q : VK} {n : Int} (q : Q (.bl true) H) : rIsi K [.int n, .ty "int"] H Q := ⟨.int n, .ty "int", _, _, true, rfl, .ty "int", .base (.int n), L2.kit_ty rfl, q⟩
def sp_right33 (K : PySem.W.Frag) (C : Addr) : Sp := fun vs H Q _ => ∃ P t W5 : Addr, vs = [.ref t, .ref W5] ∧ RightAt K C H P t W5 ∧ ∀ H', Kp [] H H' → Q (.bl true) H'
theorem sc_law_right : FnScope ["_law_ties", "_law_world", "_law_ever", "_law_living", "_law_free", "_law_rows", "_law_numbers_here", "_law_least_here", "_law_best", "_law_order", "_law_due", "_law_told", "_law_again", "_law_one", "_law_place", "_law_number"] ["_law_ties", "_law_world"] (defScope s_law_right) :=
  ⟨rfl, rfl, rfl, by decide +kernel, rfl, by decide +kernel, by decide +kernel⟩
theorem ok_law_right {P : Program} {w : World} {K : PySem.W.Frag} {mg : Str → Option Value} {base : Heap} (T : Txt K mg) :
    FnG P w K mg base 8 T.a_law_right T.d_law_right ["_law_ties", "_law_world"] (sp_right33 K T.c_Ties) := by
  refine okD T.F_law_right sc_law_right (fun vs H Q E h => ?_) (fun cdv A outer s H vs Q E hr h => ?_)
  · first
      | (obtain ⟨_, rfl, _⟩ := h; rfl)
      | (obtain ⟨_, _, rfl, _⟩ := h; rfl)
      | (obtain ⟨_, _, _, rfl, _⟩ := h; rfl)
      | (obtain ⟨_, _, _, _, rfl, _⟩ := h; rfl)
      | (obtain ⟨_, _, _, _, _, rfl, _⟩ := h; rfl)
      | (obtain ⟨_, _, _, _, _, _, rfl, _⟩ := h; rfl)
      | (obtain ⟨_, _, _, _, _, _, _, rfl, _⟩ := h; rfl)
      | (obtain ⟨_, _, _, _, _, _, _, _, rfl, _⟩ := h; rfl)
      | (obtain ⟨_, _, _, _, _, _, _, _, _, rfl, _⟩ := h; rfl)
      | (obtain ⟨_, _, _, _, _, _, _, _, _, _, rfl, _⟩ := h; rfl)
      | (obtain ⟨_, _, _, _, _, _, _, _, _, _, _, rfl, _⟩ := h; rfl)
      | (obtain ⟨_, _, _, _, _, _, _, _, _, _, _, _, rfl, _⟩ := h; rfl)
      | (obtain ⟨_, _, _, _, _, _, _, _, _, _, _, _, _, rfl, _⟩ := h; rfl)
      | (obtain ⟨_, _, _, _, _, _, _, _, _, _, _, _, _, _, rfl, _⟩ := h; rfl)
      | (obtain ⟨_, _, _, _, _, _, _, _, _, _, _, _, _, _, _, rfl, _⟩ := h; rfl)
      | (obtain ⟨_, _, _, _, _, _, _, _, _, _, _, _, _, _, _, _, rfl, _⟩ := h; rfl)
      | (obtain ⟨_, _, _, _, _, _, _, _, _, _, _, _, _, _, _, _, _, rfl, _⟩ := h; rfl)
      | (obtain ⟨_, _, _, _, _, _, _, _, _, _, _, _, _, _, _, _, _, _, rfl, _⟩ := h; rfl)
      | (obtain ⟨_, _, _, _, _, _, _, _, _, _, _, _, _, _, _, _, _, _, _, rfl, _⟩ := h; rfl)
  · obtain ⟨P, t, W5, rfl, ⟨D, ps, ever, liv, fs, rs, prs, nb, L, F, W, d, h5, hL, hF, ld, hd, kp, x0, z, ro, fo, nel, lf, ll, he, _⟩, k⟩ := h
    have hs5 : SqT K H W5 [.int ever, .ref L, .ref F, .ref W, .ref d] := SqT.of h5
    have lp : prs.length = liv.length := by rw [← kp, List.length_map]
    have nep : prs ≠ [] := fun e => nel (by rw [← kp, e]; rfl)
    have ndp : (prs.map (·.1)).Nodup := by rw [kp]; exact z.nl
    have hlp : ∀ x ∈ liv, x ∈ prs.map (·.1) := fun x hx => by rw [kp]; exact hx
    obtain ⟨nums, nof⟩ := nums_ex prs
    have hends := rows_ends z ro
    have rl := z.rows_len' (n := 60) (by omega) ro
    have cl_Ties := T.cl_Ties
    have na_Ties_near := T.na_Ties_near
    have na_Ties_own_ever := T.na_Ties_own_ever
    have na_Ties_own_living := T.na_Ties_own_living
    refine ⟨_, (pss_cons (ps_asg (pv 1) (k_gtup (K := K) 5 rfl rfl (pgs_cons (pg_name (i := 2) sc_law_right.nd rfl (Or.inl rfl)) (pgs_cons (pg_name (i := 3) sc_law_right.nd rfl (Or.inl rfl)) (pgs_cons (pg_name (i := 4) sc_law_right.nd rfl (Or.inr rfl)) (pgs_cons (pg_name (i := 5) sc_law_right.nd rfl (Or.inl rfl)) (pgs_cons (pg_name (i := 6) sc_law_right.nd rfl (Or.inl rfl)) pgs_nil)))))))
      (pss_cons (ps_asg (d1 (ok_law_least T) (hr.mono (by decide)) (by rfl) T.m_law_least T.F_law_least.kp T.b_law_least passL (pa_cons (pv 5) (pa_cons (pv 6) (pa_cons (pv 4) pa_nil)))) (k_gtup (K := K) 2 rfl rfl (pgs_cons (pg_name (i := 7) sc_law_right.nd rfl (Or.inl rfl)) (pgs_cons (pg_name (i := 8) sc_law_right.nd rfl (Or.inl rfl)) pgs_nil))))
      (pss_cons (ps_set (i := 9) sc_law_right.nd rfl (Or.inl rfl) (pe_callB (k_sortedR (K := K) rfl hr.r.units) (by rfl) T.n_sorted (by decide +kernel) (pa_cons (pe_lc (own := [("_law_one", 13)]) (g := (gName 13)) (tt := tYes) rfl sc_law_right.nd (k_plist (K := K) rfl (pv 8)) (blkOk_by (own := [("_law_one", 13)]) (N := ["_law_ties", "_law_world", "_law_ever", "_law_living", "_law_free", "_law_rows", "_law_numbers_here", "_law_least_here", "_law_best", "_law_order", "_law_due", "_law_told", "_law_again", "_law_one", "_law_place", "_law_number"]) (sc := defScope s_law_right) (by decide +kernel)) (fun _ _ _ _ _ => (pg_name (i := 13) sc_law_right.nd rfl (Or.inr rfl))) (fun _ _ _ _ _ => pts_nil) (fun _ _ _ _ _ => (pe_lc (own := [("_law_place", 14)]) (g := (gName 14)) (tt := tYes) rfl sc_law_right.nd (k_plist (K := K) rfl (pv 4)) (blkOk_by (own := [("_law_place", 14)]) (N := ["_law_ties", "_law_world", "_law_ever", "_law_living", "_law_free", "_law_rows", "_law_numbers_here", "_law_least_here", "_law_best", "_law_order", "_law_due", "_law_told", "_law_again", "_law_one", "_law_place", "_law_number"]) (by rfl)) (fun _ _ _ _ _ => (pg_name (i := 14) sc_law_right.nd rfl (Or.inl rfl))) (fun _ _ _ _ _ => pts_nil) (fun _ _ _ _ _ => (pe_dget (u1 hr.r.units) (pv 13) (pv 14) (fun _ _ => rfl)))))) pa_nil)))
      (pss_cons (ps_set (i := 10) sc_law_right.nd rfl (Or.inl rfl) (pe_callTy call_dictD (by rfl) T.n_dict (by decide +kernel) (pa_cons (pv 6) pa_nil)))
      (pss_cons (ps_expr (pe_bm PySem.F.plainAttrs_dict PySem.F.slot_dict_update PySem.F.type_dict_update mtd_update (pv 10) (pa_cons (pe_callTy (k_dictP (K := K) rfl rfl) (by rfl) T.n_dict (by decide +kernel) (pa_cons (pe_listZip rfl (by rfl) T.n_list (by rfl) T.n_zip (pa_cons (pv 4) (pa_cons (pe_ix (k_ix (K := K) rfl) (pv 9) pe_int (fun _ _ => rfl)) pa_nil))) pa_nil)) pa_nil)))
      (pss_cons (ps_par (i := 11) (j := 12) (by rfl) sc_law_right.nd rfl rfl (by decide) rfl rfl (pa_cons (d1 (ok_the_keeping T) (hr.mono (by decide)) (by rfl) T.m_the_keeping T.F_the_keeping.kp T.b_the_keeping passL (pa_cons (pv 0) (pa_cons (pv 6) pa_nil))) (pa_cons (d1 (ok_the_keeping T) (hr.mono (by decide)) (by rfl) T.m_the_keeping T.F_the_keeping.kp T.b_the_keeping passL (pa_cons (pv 0) (pa_cons (pv 6) pa_nil))) pa_nil)) (by rfl))
      (pss_cons (ps_if (PW.pt (pw_or (pt_cmpR (op_ne_dictA (u0 hr.r.units)) (pv 11) (pv 10) (nomark _)) (pw_or (pt_cmpR (op_ne_dictA (u0 hr.r.units)) (pv 12) (pv 10) (nomark _)) (pw_or1 (pt_not (pt_val (pe_callB (k_all (K := K) rfl rfl) (by rfl) T.n_all (by decide +kernel) (pa_cons (pe_lock (pe_lc (own := [("_law_number", 15)]) (g := (gName 15)) (tt := tYes) rfl sc_law_right.nd (pi_values (pv 11)) (blkOk_by (own := [("_law_number", 15)]) (N := ["_law_ties", "_law_world", "_law_ever", "_law_living", "_law_free", "_law_rows", "_law_numbers_here", "_law_least_here", "_law_best", "_law_order", "_law_due", "_law_told", "_law_again", "_law_one", "_law_place", "_law_number"]) (sc := defScope s_law_right) (by decide +kernel)) (fun _ _ _ _ _ => (pg_name (i := 15) sc_law_right.nd rfl (Or.inl rfl))) (fun _ _ _ _ _ => pts_nil) (fun _ _ _ _ _ => (pe_callB (k_isi (K := K) rfl) (by rfl) T.n_isinstance (by decide +kernel) (pa_cons (pv 15) (pa_cons (pe_bltn (v := .ty "int") (by rfl) T.n_int (by decide +kernel) rfl) pa_nil)))))) pa_nil)))))))) (pss_one (ps_ret pe_bl)) pss_nil)
      (pss_cons (ps_expr (pe_bm0 PySem.F.plainAttrs_dict PySem.F.slot_dict_clear PySem.F.type_dict_clear mtd_clr (pv 11)))
      (pss_one (ps_ret (pe_and (pe_cmpR (op_eq_dictA (u0 hr.r.units)) (pv 12) (pv 10) (nomark _)) (pe_and (pe_cmpR (op_eq_dictA (u0 hr.r.units)) (d1 (ok_the_keeping T) (hr.mono (by decide)) (by rfl) T.m_the_keeping T.F_the_keeping.kp T.b_the_keeping passL (pa_cons (pv 0) (pa_cons (pv 6) pa_nil))) (pv 10) (nomark _)) (pe_one (pe_cmpR (op_eq_dictA (u0 hr.r.units)) (pv 11) pe_dnewK (nomark _))))))))))))))), ?_⟩
    dsimp only [cxOf, st_1, st_2, st_3, st_4, st_5, st_6, List.length_cons, List.length_nil, List.replicate_succ, List.replicate_zero, Nat.reduceAdd, Nat.reduceSub]
    walk_at "gs"
    refine ⟨W, d, F, rs, prs, fs, nums, rfl, ld, by omega, hd, hF, by rw [kp]; exact z.nk, nep, by omega, lf, nof, by rw [kp]; exact hends, fun R B m x as H2 hx hR hB ds q1 q2 fR fB k2 => ?_⟩
    have hsR : SqT K H2 R [.int m, .ref B] := SqT.of hR
    walk_at "gs"
    obtain ⟨best, eb⟩ : ∃ best, best = (allQ (nums ++ [x]) [prs] fs).filter fun q => decide (costF rs q = m) := ⟨_, rfl⟩
    have bmem : ∀ q ∈ best, q ∈ allQ (nums ++ [x]) [prs] fs := fun q hq => by
      rw [eb] at hq
      exact (List.mem_filter.mp hq).1
    have lbe : best.length ≤ 100000 := by
      rw [eb]
      refine Nat.le_trans (List.length_filter_le _ _) ?_
      rw [allQ_len, List.length_singleton, Nat.one_mul, List.length_append, List.length_singleton]
      have := nof.len
      exact Nat.le_trans (Nat.pow_le_pow_right (by omega) lf) (Nat.le_trans (Nat.pow_le_pow_left (show nums.length + 1 ≤ 13 by omega) 4) (by decide))
    rw [← eb] at ds
    have lds := ds.len
    have hF2 := k2.at_ _ _ hF not_nil
    refine i_elts (SqL.of hB) (fun G i H' => Kp [] H2 H' ∧ ∃ ls : List Addr, H' G = some (.lst (ls.map V.ref)) ∧ LsAt H' ls ((best.take i).map fun q => fs.map (look q)) ∧ G ∉ ls) ?_ ?_ ?_ ?_
    · intro G fG
      exact ⟨Kp.new fG, [], upd_same, by rw [List.take_zero]; trivial, fun h => nomatch h⟩
    · rintro G i H' fG _ ⟨kk, _⟩
      exact kk.seqL not_nil (SqL.of hB)
    · rintro G i y H' fG hy ⟨kk, ls, hG, la, nG⟩
      obtain ⟨a, ha, e⟩ := map_get hy
      subst e
      obtain ⟨q, hq, hqa⟩ := (ds.kp0 kk).get ha
      have hqm := bmem q (List.mem_of_getElem? hq)
      have hF' := kk.at_ _ _ hF2 not_nil
      walk_at "gs"
      refine i_elts (SqL.of hF') (fun G2 n H'' => Kp [] H' H'' ∧ H'' G2 = some (.lst (((fs.take n).map (look q)).map V.int))) ?_ ?_ ?_ ?_
      · intro G2 fG2
        exact ⟨Kp.new fG2, upd_same⟩
      · rintro G2 n H'' fG2 _ ⟨k7, _⟩
        exact k7.seqL not_nil (SqL.of hF')
      · rintro G2 n y H'' fG2 hy ⟨k7, hG2⟩
        obtain ⟨w, hw, e⟩ := map_get hy
        subst e
        have hnl := (List.getElem?_eq_some_iff.mp hw).1
        walk_at "gs"
        refine i_dg (k7.at_ _ _ hqa not_nil) (look_mem (by rw [allQ_keys hqm]; exact List.mem_append.mpr (.inr (List.mem_of_getElem? hw)))).2 ?_
        refine ⟨_, hG2, small_sz (by rw [List.length_map, List.length_map, List.length_take]; omega), Kp.upd k7 fG2, ?_⟩
        rw [take_map_snoc hw, List.map_append]
        exact upd_same
      rintro G2 H3 fG2 ⟨k3, hG2⟩
      rw [List.length_map, List.take_length] at hG2
      have hG3 := k3.at_ _ _ hG not_nil
      have la3 := la.kp k3 fun _ _ => not_nil
      have nG2 : G ≠ G2 := fr_ne hG fG2
      have kM : Kp [G] H3 (upd H3 G (.lst (ls.map V.ref ++ [.ref G2]))) := kp_set hG3 (fun z => z)
      have lla := la.len
      rw [List.length_map, List.length_take] at lla
      refine ⟨_, hG3, small_sz (by rw [List.length_map]; omega), Kp.upd (Kp.trans kk k3) fG, ls ++ [G2], by rw [List.map_append]; exact upd_same, ?_, ?_⟩
      · rw [take_map_snoc hq]
        exact LsAt.snoc (upd_nn (Ne.symm nG2) hG2) (la3.kp kM fun b hb => not_one fun e => nG (e ▸ hb))
      · rw [List.mem_append, List.mem_singleton]
        exact fun h => h.elim nG nG2
    rintro G H3 fG ⟨k3, ls, hG, la, nG⟩
    rw [List.length_map, lds, List.take_length] at la
    walk_at "gs"
    refine ⟨G, ls, ilst H3, rfl, SqL.of hG, fun l hl => ?_, fun ms S pm pw fS => ?_⟩
    · obtain ⟨ns, _, h⟩ := la.mem l hl
      rw [ilst_eq h]
      exact SqL.of h
    have kS := Kp.new (ws := []) (o := HO.lst (ms.map V.ref)) fS
    have hS := fresh_at (o := HO.lst (ms.map V.ref)) fS
    have lms := pm.length_eq
    have lls := la.len
    rw [List.length_map] at lls
    obtain ⟨s0, mr, ems⟩ : ∃ a l, ms = a :: l := by
      cases ms with
      | nil =>
        obtain ⟨q, hq, hc⟩ := q1
        have : q ∈ best := by rw [eb]; exact List.mem_filter.mpr ⟨hq, decide_eq_true hc⟩
        have := List.length_pos_of_mem this
        simp only [List.length_nil] at lms
        omega
      | cons a l => exact ⟨a, l, rfl⟩
    obtain ⟨n0, hn0, hs0⟩ := la.mem s0 (pm.mem_iff.mp (by rw [ems]; exact List.mem_cons_self))
    have least0 : ∀ q ∈ best, n0 ≤ fs.map (look q) := fun q hq => by
      obtain ⟨l, hl, hh⟩ := la.mem' _ (List.mem_map.mpr ⟨q, hq, rfl⟩)
      have hl2 := pm.mem_iff.mpr hl
      rw [ems] at hl2
      rcases List.mem_cons.mp hl2 with e | h
      · rw [e] at hh
        rw [(ilst_eq hs0).symm.trans (ilst_eq hh)]
        exact List.le_refl _
      · rw [ems] at pw
        have := (List.pairwise_cons.mp pw).1 l h
        rw [ilst_eq hs0, ilst_eq hh] at this
        exact this
    have k13 := Kp.trans k2 (Kp.trans k3 kS)
    obtain ⟨H4, e4⟩ : ∃ H4, H4 = upd H3 S (.lst (ms.map V.ref)) := ⟨_, rfl⟩
    have hs4 := kS.at_ _ _ hs0 not_nil
    rw [← e4] at kS hS k13 hs4 ⊢
    have hd4 := k13.at_ _ _ hd not_nil
    have hF4 := k13.at_ _ _ hF not_nil
    walk_at "gs"
    refine ⟨d, _, rfl, Rd.of hd4, fun e he' => ?_⟩
    have fe : Fr H4 e := ⟨he'⟩
    have ke := Kp.new (ws := []) (o := HO.dK (prs.map kN)) fe
    have he1 := fresh_at (o := HO.dK (prs.map kN)) fe
    obtain ⟨H5, e5⟩ : ∃ H5, H5 = upd H4 e (.dK (prs.map kN)) := ⟨_, rfl⟩
    rw [← e5] at ke he1 ⊢
    have hS5 := ke.at_ _ _ hS not_nil
    have hs5' := ke.at_ _ _ hs4 not_nil
    have hF5 := ke.at_ _ _ hF4 not_nil
    walk_at "gs"
    refine ⟨.inr (.inr (.inl ⟨rfl, .inl ⟨_, he1⟩⟩)), ?_⟩
    walk_at "gs"
    refine i_listZip ?_
    walk_at "gs"
    refine i_ixL (SqL.of hS5) (v := .ref s0) (by rw [ems]; exact at_zero) ?_
    refine ⟨F, s0, _, _, rfl, hF5, hs5', fun H6 Z pz fZ hZ zd => ?_⟩
    have ln0 : fs.length = n0.length := by
      obtain ⟨q, _, e⟩ := List.mem_map.mp hn0
      rw [← e, List.length_map]
    have kz := zd_kp fZ zd
    have pz6 := zd_prs zd ln0
    have ndf : (fs : List Int).Nodup := (List.nodup_append.mp z.nk).2.1
    have he6 := kz.at_ _ _ he1 not_nil
    walk_at "gs"
    refine i_dictPrs hZ pz6 (by rw [zip_keys ln0.symm]; exact ndf) (i_new fun U fU => ?_)
    have kU := Kp.new (ws := []) (o := HO.dK ((fs.zip n0).map kN)) fU
    have hU := fresh_at (o := HO.dK ((fs.zip n0).map kN)) fU
    have he7 := kU.at_ _ _ he6 not_nil
    obtain ⟨H7, e7⟩ : ∃ H7, H7 = upd H6 U (.dK ((fs.zip n0).map kN)) := ⟨_, rfl⟩
    rw [← e7] at kU hU he7 ⊢
    have lzip : (fs.zip n0).length ≤ 4 := by rw [List.length_zip]; omega
    refine ⟨e, U, _, _, rfl, rfl, fr_ne he6 fU, he7, hU, by rw [List.length_map, List.length_map]; omega, ?_⟩
    have ndz : ((prs ++ fs.zip n0).map (·.1)).Nodup := by
      rw [List.map_append, kp, zip_keys ln0.symm]
      exact z.nk
    rw [merge_kN _ _ ndz]
    have kE : Kp [e] H7 (upd H7 e (.dK ((prs ++ fs.zip n0).map kN))) := kp_set he7 (fun z => z)
    have hE : (upd H7 e (.dK ((prs ++ fs.zip n0).map kN))) e = some (.dK ((prs ++ fs.zip n0).map kN)) := upd_same
    have k48 : Kp [] H4 (upd H7 e (.dK ((prs ++ fs.zip n0).map kN))) := Kp.drop (Kp.trans (Kp.trans ke (Kp.trans kz kU)).wide kE) fe
    obtain ⟨H8, e8⟩ : ∃ H8, H8 = upd H7 e (.dK ((prs ++ fs.zip n0).map kN)) := ⟨_, rfl⟩
    rw [← e8] at hE k48 ⊢
    have k18 := Kp.trans k13 k48
    have hd8 := k18.at_ _ _ hd not_nil
    walk_at "gs"
    have lst0 : Lst (tl prs) nums (liv ++ fs) rs m := by
      rw [← kp]
      exact lst_all (by rw [kp]; exact z.nk) (by rw [kp]; exact hends) nof nep q1 q2
    have enl : (liv.map fun x => (x, look prs x)) = prs := by
      refine Eq.trans ?_ (pr_take (fs := []) (pr := liv.map fun x => (x, look prs x)) (by rw [List.map_map, List.append_nil]; exact List.map_id _) (by rw [List.map_map]; exact (List.map_id liv).symm ▸ z.nl) kp fun x hx => look_eq (by rw [List.map_map]; exact (List.map_id liv).symm ▸ z.nl) (List.mem_map.mpr ⟨x, hx, rfl⟩))
      rw [List.take_of_length_le (by rw [List.length_map]; exact Nat.le_refl _)]
    refine ⟨D, t, d, ps, ever, liv, liv ++ fs, nb, prs, rfl, x0.kp0 k18, z, by omega, hd8, ndp, hlp, fun K1 fs1 pr1 out1 H9 fK1 k9 hK1 fo1 kpr1 lkp1 kpo1 pwo1 memo1 lko1 => ?_⟩
    have efs1 : fs1 = fs := lt_uniq fo1.1 fo.1 fun x => by rw [fo1.2, fo.2]
    subst efs1
    obtain ⟨_, kpf1⟩ := kpo1 nel nums (by rw [enl]; exact nof)
    obtain ⟨nd1, len1, same1⟩ := told_due kp z.nk ro hends nof nep hx lst0 eb hn0 least0 kpr1 lkp1 kpf1 pwo1 memo1 lko1
    have k19 := Kp.trans k18 k9
    have hd9 := k9.at_ _ _ hd8 not_nil
    walk_at "gs"
    refine ⟨D, t, d, ps, ever, liv, liv ++ fs1, nb, prs, rfl, x0.kp0 k19, z, by omega, hd9, ndp, hlp, fun K2 fs2 pr2 out2 H10 fK2 k10 hK2 fo2 kpr2 lkp2 kpo2 pwo2 memo2 lko2 => ?_⟩
    have efs2 : fs2 = fs1 := lt_uniq fo2.1 fo.1 fun x => by rw [fo2.2, fo.2]
    subst efs2
    obtain ⟨_, kpf2⟩ := kpo2 nel nums (by rw [enl]; exact nof)
    obtain ⟨nd2, len2, same2⟩ := told_due kp z.nk ro hends nof nep hx lst0 eb hn0 least0 kpr2 lkp2 kpf2 pwo2 memo2 lko2
    have k110 := Kp.trans k19 k10
    have hd10 := k10.at_ _ _ hd9 not_nil
    have hE10 := (Kp.trans k9 k10).at_ _ _ hE not_nil
    have hK1' := k10.at_ _ _ hK1 not_nil
    have nEK1 : e ≠ K1 := fr_ne hE fK1
    have nK12 : K1 ≠ K2 := fr_ne hK1 fK2
    have fK1H : Fr H K1 := k18.free fK1
    walk_at "gs"
    refine i_neDL hK1' hE10 nd1 len1 same1 ?_
    walk_at "gs"
    refine i_neDL hK2 hE10 nd2 len2 same2 ?_
    walk_at "gs"
    refine i_lockE hK1' fun od => ?_
    refine i_lcV ?_
    walk_at "gs"
    have kF : Kp [K1] H10 (upd H10 K1 (.frz od (.dK (out1.map kN)))) := kp_set hK1' (fun z => z)
    refine i_valG upd_same (fun R i H' => Kp [] (upd H10 K1 (.frz od (.dK (out1.map kN)))) H' ∧ H' R = some (.lst ((List.replicate i true).map V.bl))) ?_ ?_ ?_ ?_
    · intro R fR
      exact ⟨Kp.new fR, upd_same⟩
    · rintro R i H' fR ⟨kk, _⟩
      exact kk.at_ _ _ upd_same not_nil
    · rintro R i ky v H' fR hy ⟨kk, hR⟩
      obtain ⟨q, hq, e⟩ := map_get hy
      injection e with e1 e2
      subst e2
      have hil := (List.getElem?_eq_some_iff.mp hq).1
      have lo : out1.length ≤ 100 := by
        have l1 := len1
        rw [List.length_append] at l1
        omega
      walk_at "gs"
      refine i_isInt ?_
      walk_at "gs"
      refine ⟨_, hR, small_sz (by rw [List.length_map, List.length_replicate]; omega), Kp.upd kk fR, ?_⟩
      have e : (List.replicate (i + 1) true).map V.bl = (List.replicate i true).map V.bl ++ [V.bl true] := by
        rw [List.replicate_succ', List.map_append]
        rfl
      rw [e]
      exact upd_same
    rintro R H11 fR ⟨k11, hR⟩
    have nRK : R ≠ K1 := fun e => by
      rw [e] at fR
      have := fR.e
      rw [upd_same] at this
      cases this
    refine ⟨k11.at_ _ _ upd_same not_nil, ?_⟩
    have kL : Kp [] H10 (upd H11 K1 (.dK (out1.map kN))) := kp_unl hK1' (fun z => z) k11
    have hR12 := upd_nn (o := .dK (out1.map kN)) nRK hR
    obtain ⟨H12, e12⟩ : ∃ H12, H12 = upd H11 K1 (.dK (out1.map kN)) := ⟨_, rfl⟩
    rw [← e12] at kL hR12 ⊢
    walk_at "gs"
    refine i_all (SqL.of hR12) ?_
    rw [all_rep]
    have hK1c := kL.at_ _ _ hK1' not_nil
    walk_at "gs"
    refine ⟨.inr (.inr (.inl ⟨rfl, .inl ⟨_, hK1c⟩⟩)), ?_⟩
    refine ⟨K1, _, rfl, rfl, hK1c, ?_⟩
    have kC : Kp [K1] H12 (upd H12 K1 (.dK [])) := kp_set hK1c (fun z => z)
    have hK1e : (upd H12 K1 (.dK [])) K1 = some (.dK []) := upd_same
    obtain ⟨H13, e13⟩ : ∃ H13, H13 = upd H12 K1 (.dK []) := ⟨_, rfl⟩
    rw [← e13] at kC hK1e ⊢
    have hK2c := kC.at_ _ _ (kL.at_ _ _ hK2 not_nil) (not_one (Ne.symm nK12))
    have hEc := kC.at_ _ _ (kL.at_ _ _ hE10 not_nil) (not_one nEK1)
    have k813 : Kp [] H H13 := Kp.drop (Kp.trans (Kp.trans k110 kL).wide kC) fK1H
    have hd13 := k813.at_ _ _ hd not_nil
    walk_at "gs"
    refine i_eqDL hK2c hEc nd2 len2 same2 ?_
    refine ⟨true, rfl, ?_⟩
    rw [if_pos rfl]
    walk_at "gs"
    refine ⟨D, t, d, ps, ever, liv, liv ++ fs2, nb, prs, rfl, x0.kp0 k813, z, by omega, hd13, ndp, hlp, fun K3 fs3 pr3 out3 H14 fK3 k14 hK3 fo3 kpr3 lkp3 kpo3 pwo3 memo3 lko3 => ?_⟩
    have efs3 : fs3 = fs2 := lt_uniq fo3.1 fo.1 fun x => by rw [fo3.2, fo.2]
    subst efs3
    obtain ⟨_, kpf3⟩ := kpo3 nel nums (by rw [enl]; exact nof)
    obtain ⟨nd3, len3, same3⟩ := told_due kp z.nk ro hends nof nep hx lst0 eb hn0 least0 kpr3 lkp3 kpf3 pwo3 memo3 lko3
    have hE14 := k14.at_ _ _ hEc not_nil
    have hK1d := k14.at_ _ _ hK1e not_nil
    have k114 := Kp.trans k813 k14
    walk_at "gs"
    refine i_eqDL hK3 hE14 nd3 len3 same3 ?_
    refine ⟨true, rfl, ?_⟩
    rw [if_pos rfl]
    walk_at "gs"
    refine i_new fun Z2 fZ2 => ?_
    have kZ2 := Kp.new (ws := []) (o := HO.dK []) fZ2
    have hZ2 := fresh_at (o := HO.dK []) fZ2
    refine i_eqDL (ps := []) (qs := []) (kZ2.at_ _ _ hK1d not_nil) hZ2 .nil rfl (fun x h => nomatch h) ?_
    exact k _ (Kp.trans k114 kZ2)

def sp_law (K : PySem.W.Frag) : Sp := fun vs H Q _ => ∃ (a : Addr) (ns : List Int),
  vs = [.ref a] ∧ SqL K H a (ns.map V.int) ∧ ns.length ≤ 63 ∧ ∀ H', Q (.bl true) H'
theorem sc_law : FnScope ["_law_script", "_law_pairs", "_law_k", "_law_world", "_law_ties"] ["_law_script"] (defScope s_law) :=
  ⟨rfl, rfl, rfl, by decide +kernel, rfl, by decide +kernel, by decide +kernel⟩
theorem ok_law {P : Program} {w : World} {K : PySem.W.Frag} {mg : Str → Option Value} {base : Heap} (T : Txt K mg) :
    FnG P w K mg base 9 T.a_law T.d_law ["_law_script"] (sp_law K) := by
  refine okD T.F_law sc_law (fun vs H Q E h => ?_) (fun cdv A outer s H vs Q E hr h => ?_)
  · first
      | (obtain ⟨_, rfl, _⟩ := h; rfl)
      | (obtain ⟨_, _, rfl, _⟩ := h; rfl)
      | (obtain ⟨_, _, _, rfl, _⟩ := h; rfl)
      | (obtain ⟨_, _, _, _, rfl, _⟩ := h; rfl)
      | (obtain ⟨_, _, _, _, _, rfl, _⟩ := h; rfl)
      | (obtain ⟨_, _, _, _, _, _, rfl, _⟩ := h; rfl)
      | (obtain ⟨_, _, _, _, _, _, _, rfl, _⟩ := h; rfl)
      | (obtain ⟨_, _, _, _, _, _, _, _, rfl, _⟩ := h; rfl)
      | (obtain ⟨_, _, _, _, _, _, _, _, _, rfl, _⟩ := h; rfl)
      | (obtain ⟨_, _, _, _, _, _, _, _, _, _, rfl, _⟩ := h; rfl)
      | (obtain ⟨_, _, _, _, _, _, _, _, _, _, _, rfl, _⟩ := h; rfl)
      | (obtain ⟨_, _, _, _, _, _, _, _, _, _, _, _, rfl, _⟩ := h; rfl)
      | (obtain ⟨_, _, _, _, _, _, _, _, _, _, _, _, _, rfl, _⟩ := h; rfl)
      | (obtain ⟨_, _, _, _, _, _, _, _, _, _, _, _, _, _, rfl, _⟩ := h; rfl)
      | (obtain ⟨_, _, _, _, _, _, _, _, _, _, _, _, _, _, _, rfl, _⟩ := h; rfl)
      | (obtain ⟨_, _, _, _, _, _, _, _, _, _, _, _, _, _, _, _, rfl, _⟩ := h; rfl)
      | (obtain ⟨_, _, _, _, _, _, _, _, _, _, _, _, _, _, _, _, _, rfl, _⟩ := h; rfl)
      | (obtain ⟨_, _, _, _, _, _, _, _, _, _, _, _, _, _, _, _, _, _, rfl, _⟩ := h; rfl)
      | (obtain ⟨_, _, _, _, _, _, _, _, _, _, _, _, _, _, _, _, _, _, _, rfl, _⟩ := h; rfl)
  · obtain ⟨s, ns, rfl, hsq, hns, k⟩ := h
    have cl_Ties := T.cl_Ties
    have na_Ties_near := T.na_Ties_near
    have na_Ties_own_ever := T.na_Ties_own_ever
    have na_Ties_own_living := T.na_Ties_own_living
    refine ⟨_, (pss_cons (ps_set (i := 1) sc_law.nd rfl (Or.inl rfl) (pe_lst pa_nil))
      (pss_cons (ps_for (passes_of rfl) rfl (pi_range1 (by rfl) T.n_range (pa_cons (pe_callB (c_max2 rfl) (by rfl) T.n_max (by decide +kernel) (pa_cons pe_int (pa_cons (pe_callB (c_min2 rfl) (by rfl) T.n_min (by decide +kernel) (pa_cons pe_int (pa_cons (pe_callB (k_len (K := K) rfl) (by rfl) T.n_len (by decide +kernel) (pa_cons (pv 0) pa_nil)) pa_nil))) pa_nil))) pa_nil)) (pg_name (i := 2) sc_law.nd rfl (Or.inl rfl))
      (pss_cons (ps_set (i := 3) sc_law.nd rfl (Or.inl rfl) (d1 (ok_law_few T) (hr.mono (by decide)) (by rfl) T.m_law_few T.F_law_few.kp T.b_law_few passL (pa_cons (d1 (ok_law_pot T) (hr.mono (by decide)) (by rfl) T.m_law_pot T.F_law_pot.kp T.b_law_pot passL (pa_cons (pv 0) (pa_cons (pv 2) pa_nil))) pa_nil)))
      (pss_one (ps_expr (pe_bm PySem.F.plainAttrs_list PySem.F.slot_list_append PySem.F.type_list_append mt_append (pv 1) (pa_cons (pe_tup (pa_cons (d1 (ok_ties_of T) (hr.mono (by decide)) (by rfl) T.m_ties_of T.F_ties_of.kp T.b_ties_of passL (pa_cons (pe_ix (k_ix (K := K) rfl) (pv 3) pe_int (fun _ _ => rfl)) (pa_cons (pe_ix (k_ix (K := K) rfl) (pv 3) pe_int (fun _ _ => rfl)) (pa_cons (pe_ix (k_ix (K := K) rfl) (pv 3) pe_int (fun _ _ => rfl)) (pa_cons (pe_ix (k_ix (K := K) rfl) (pv 3) pe_int (fun _ _ => rfl)) pa_nil))))) (pa_cons (pv 3) pa_nil))) pa_nil))))))
      (pss_one (ps_ret (pe_callB (k_all (K := K) rfl rfl) (by rfl) T.n_all (by decide +kernel) (pa_cons (pe_lc (own := [("_law_ties", 4), ("_law_world", 3)]) (g := (gTup K 2 (gCons (gName 4) (gCons (gName 3) gNil)))) (tt := tYes) rfl sc_law.nd (k_plist (K := K) rfl (pe_op (k_add (K := K) rfl) (pv 1) (pe_slice (k_sl (K := K) rfl) (pv 1) po_none (po_some pe_int)))) (blkOk_by (own := [("_law_ties", 4), ("_law_world", 3)]) (N := ["_law_script", "_law_pairs", "_law_k", "_law_world", "_law_ties"]) (sc := defScope s_law) (by decide +kernel)) (fun _ _ _ _ _ => (k_gtup (K := K) 2 rfl rfl (pgs_cons (pg_name (i := 4) sc_law.nd rfl (Or.inl rfl)) (pgs_cons (pg_name (i := 3) sc_law.nd rfl (Or.inl rfl)) pgs_nil)))) (fun _ _ _ _ _ => pts_nil) (fun _ _ _ _ _ => (d1 (ok_law_right T) (hr.mono (by decide)) (by rfl) T.m_law_right T.F_law_right.kp T.b_law_right passL (pa_cons (pv 4) (pa_cons (pv 3) pa_nil))))) pa_nil)))))), ?_⟩
    dsimp only [cxOf, st_1, st_2, st_3, st_4, st_5, st_6, List.length_cons, List.length_nil, List.replicate_succ, List.replicate_zero, Nat.reduceAdd, Nat.reduceSub]
    walk_at "gs"
    refine i_new fun P fP => ?_
    have kP := Kp.new (ws := []) (o := HO.lst []) fP
    have hP := fresh_at (o := HO.lst []) fP
    obtain ⟨H0, e0⟩ : ∃ H0, H0 = upd H P (.lst []) := ⟨_, rfl⟩
    have nsP : ∀ {H' : Hp}, Kp [P] H0 H' → SqL K H' s (ns.map V.int) := fun {H'} kk => by
      have k2 : Kp [] H H' := Kp.dropAll (Kp.trans (ws := [P]) (by rw [e0]; exact kP.wide) kk) fun b hb => .inr (by rw [List.mem_singleton.mp hb]; exact fP)
      exact k2.seqL not_nil hsq
    rw [← e0] at kP hP ⊢
    have hsq0 := nsP Kp.refl
    walk_at "gs"
    rw [List.length_map]
    refine i_turns (by omega) (by omega) (fun i σ H' => ∃ (o2 o3 o4 : Option V) (xs : List V), σ = [some (.ref s), some (.ref P), o2, o3, o4] ∧ Kp [P] H0 H' ∧ H' P = some (.lst xs) ∧ xs.length = i ∧ ∀ x ∈ xs, ∃ Tq t W5, x = .ref Tq ∧ H' Tq = some (.tup [.ref t, .ref W5]) ∧ RightAt K T.c_Ties H' P t W5) ?_ ?_ ?_
    · exact ⟨_, _, _, [], rfl, Kp.refl, hP, rfl, fun x hx => nomatch hx⟩
    · rintro i σ H1 hi ⟨o2, o3, o4, xs, rfl, k1, hP1, lx, all⟩
      walk_at "gs"
      refine ⟨s, ns, i, rfl, nsP k1, by omega, fun p H2 fp k2 hp2 => ?_⟩
      walk_at "gs"
      refine ⟨p, rfl, hp2, fun R L F W d ever liv fs rs prs H3 hp3 k3 hR hL hF ld hd kp fL fF fW fd dr lf ll he => ?_⟩
      have hsR : SqT K H3 R [.int ever, .ref L, .ref F, .ref W, .ref d] := SqT.of hR
      obtain ⟨D, z⟩ := dr.ex
      walk_at "gs"
      refine ⟨D, ever, L, F, W, liv, fs, liv ++ fs, rs, nbR rs, rfl, hL, hF, ld, z, dr.sl, dr.fo, dr.ro, by omega, fun t ps nb H4 ft fps k4 x4 z4 => ?_⟩
      have k13 : Kp [] H1 H3 := Kp.drop (Kp.trans k2.wide k3) fp
      have k14 := Kp.trans k13 k4
      have hP4 := k14.at_ _ _ hP1 not_nil
      have nP : ∀ {b}, Fr H1 b → b ≠ P := fun {b} f => Ne.symm (fr_ne hP1 f)
      have ra : RightAt K T.c_Ties H4 P t R := ⟨D, ps, ever, liv, fs, rs, prs, nb, L, F, W, d, k4.fix _ _ hR trivial, k4.at_ _ _ hL not_nil, k4.at_ _ _ hF not_nil, ld.kp k4 (imms_d2 _) not_nil, k4.at_ _ _ hd not_nil, kp, x4, z4, rows_as z z4 dr.ro, dr.fo, dr.ne, lf, ll, he, nP (k2.free fL), nP (k2.free fF), nP (k2.free fW), nP (k2.free fd), fun h => nP (k13.free (fps P h)) rfl⟩
      walk_at "gs"
      refine i_new fun T fT => ?_
      have kT := Kp.new (ws := []) (o := HO.tup [.ref t, .ref R]) fT
      have hT := fresh_at (o := HO.tup [.ref t, .ref R]) fT
      have hP5 := kT.at_ _ _ hP4 not_nil
      have k15 := Kp.trans k14 kT
      have ra5 := ra.kp kT.wide
      obtain ⟨H5, e5⟩ : ∃ H5, H5 = upd H4 T (.tup [.ref t, .ref R]) := ⟨_, rfl⟩
      rw [← e5] at hT hP5 k15 ra5 ⊢
      walk_at "gs"
      have kM : Kp [P] H5 (upd H5 P (.lst (xs ++ [.ref T]))) := kp_set hP5 (fun z => z)
      refine ⟨_, _, _, xs ++ [.ref T], rfl, Kp.trans k1 (Kp.trans k15.wide kM), upd_same, by rw [List.length_append, lx]; rfl, fun x hx => ?_⟩
      rcases List.mem_append.mp hx with h | h
      · obtain ⟨T', t', W', e, h1, h2⟩ := all x h
        exact ⟨T', t', W', e, kM.fix _ _ (k15.fix _ _ h1 trivial) trivial, h2.kp (Kp.trans k15.wide kM)⟩
      · exact ⟨T, t, R, List.mem_singleton.mp h, kM.fix _ _ hT trivial, ra5.kp kM⟩
    · rintro σ H1 ⟨o2, o3, o4, xs, rfl, k1, hP1, lx, all⟩
      have hsP : SqL K H1 P xs := SqL.of hP1
      walk_at "gs"
      refine i_new fun Y fY => ?_
      rw [show (1 : Int) = ((1 : Nat) : Int) from rfl, cutV_upto]
      have kY := Kp.new (ws := []) (o := HO.lst (xs.take 1)) fY
      have hP2 := kY.at_ _ _ hP1 not_nil
      walk_at "gs"
      refine i_addL hP2 upd_same (by rw [List.length_take]; omega) ?_
      refine i_new fun Z fZ => ?_
      have kZ := Kp.new (ws := []) (o := HO.lst (xs ++ xs.take 1)) fZ
      have hZ := fresh_at (o := HO.lst (xs ++ xs.take 1)) fZ
      have kYZ := Kp.trans kY kZ
      obtain ⟨H2, e2⟩ : ∃ H2, H2 = upd (upd H1 Y (.lst (xs.take 1))) Z (.lst (xs ++ xs.take 1)) := ⟨_, rfl⟩
      rw [← e2] at kYZ hZ ⊢
      have all2 : ∀ x ∈ xs ++ xs.take 1, ∃ Tq t W5, x = .ref Tq ∧ H2 Tq = some (.tup [.ref t, .ref W5]) ∧ RightAt K T.c_Ties H2 P t W5 := fun x hx => by
        obtain ⟨T', t', W', e, h1, h2⟩ := all x ((List.mem_append.mp hx).elim id List.mem_of_mem_take)
        exact ⟨T', t', W', e, kYZ.fix _ _ h1 trivial, h2.kp kYZ.wide⟩
      have lz := List.length_take_le 1 xs
      refine i_elts (SqL.of hZ) (fun R i H' => Kp [] H2 H' ∧ H' R = some (.lst ((List.replicate i true).map V.bl))) ?_ ?_ ?_ ?_
      · intro R fR
        exact ⟨Kp.new fR, upd_same⟩
      · rintro R i H' fR _ ⟨kk, _⟩
        exact kk.seqL not_nil (SqL.of hZ)
      · rintro R i y H' fR hy ⟨kk, hR'⟩
        have hid := (List.getElem?_eq_some_iff.mp hy).1
        rw [List.length_append] at hid
        obtain ⟨T', t', W', rfl, h1, h2⟩ := all2 y (List.mem_of_getElem? hy)
        have hsT : SqT K H' T' [.ref t', .ref W'] := SqT.of (kk.fix _ _ h1 trivial)
        walk_at "gs"
        refine ⟨P, t', W', rfl, h2.kp kk.wide, fun H8 k8 => ?_⟩
        refine ⟨_, k8.at_ _ _ hR' not_nil, small_sz (by rw [List.length_map, List.length_replicate]; omega), Kp.upd (Kp.trans kk k8) fR, ?_⟩
        have e : (List.replicate (i + 1) true).map V.bl = (List.replicate i true).map V.bl ++ [V.bl true] := by
          rw [List.replicate_succ', List.map_append]
          rfl
        rw [e]
        exact upd_same
      rintro R8 H8 fR8 ⟨k8, hR8⟩
      walk_at "gs"
      refine i_all (SqL.of hR8) ?_
      rw [all_rep]
      walk_at "gs"
      exact k _
theorem law_end {K : PySem.W.Frag} {H : Hp} {a : Addr} {ns : List Int} (hl : ns.length ≤ 63)
    (_ : ∀ z ∈ ns, Builtin.Int.intBits z ≤ 1048576) (_ : Only H) (hs : SqL K H a (ns.map V.int)) :
    sp_law K [.ref a] H (fun v _ => v = .bl true) fun _ _ _ => False :=
  ⟨a, ns, rfl, hs, hl, fun _ => rfl⟩

theorem all_mk {l : PySem.W.OpenLaw} {w : World} {K : PySem.W.Frag} {h : Heap}
    {mg : Str → Option Value} {fa : Addr} (X : K.In h) (N : h.Ns mainGlobals mg)
    (hfa : mg "law" = some (.ref fa))
    {C0 : Addr} (ac0 : PySem.W.nsIn K mainGlobals "Ties" = some (some (.ref C0)))
    {f0 : Addr} {od0 an0 : Option Addr} {sl0 : Array (Option Value)} {oc0 kV0 dc0 pm0 cd0 ct0 : Value}
    {f1 : Addr} {od1 an1 : Option Addr} {sl1 : Array (Option Value)} {oc1 kV1 dc1 pm1 cd1 ct1 : Value}
    {f2 : Addr} {od2 an2 : Option Addr} {sl2 : Array (Option Value)} {oc2 kV2 dc2 pm2 cd2 ct2 : Value}
    {f3 : Addr} {od3 an3 : Option Addr} {sl3 : Array (Option Value)} {oc3 kV3 dc3 pm3 cd3 ct3 : Value}
    {f4 : Addr} {od4 an4 : Option Addr} {sl4 : Array (Option Value)} {oc4 kV4 dc4 pm4 cd4 ct4 : Value}
    {f5 : Addr} {od5 an5 : Option Addr} {sl5 : Array (Option Value)} {oc5 kV5 dc5 pm5 cd5 ct5 : Value}
    {f6 : Addr} {od6 an6 : Option Addr} {sl6 : Array (Option Value)} {oc6 kV6 dc6 pm6 cd6 ct6 : Value}
    {f7 : Addr} {od7 an7 : Option Addr} {sl7 : Array (Option Value)} {oc7 kV7 dc7 pm7 cd7 ct7 : Value}
    {f8 : Addr} {od8 an8 : Option Addr} {sl8 : Array (Option Value)} {oc8 kV8 dc8 pm8 cd8 ct8 : Value}
    {f9 : Addr} {od9 an9 : Option Addr} {sl9 : Array (Option Value)} {oc9 kV9 dc9 pm9 cd9 ct9 : Value}
    {f10 : Addr} {od10 an10 : Option Addr} {sl10 : Array (Option Value)} {oc10 kV10 dc10 pm10 cd10 ct10 : Value}
    {f11 : Addr} {od11 an11 : Option Addr} {sl11 : Array (Option Value)} {oc11 kV11 dc11 pm11 cd11 ct11 : Value}
    {f12 : Addr} {od12 an12 : Option Addr} {sl12 : Array (Option Value)} {oc12 kV12 dc12 pm12 cd12 ct12 : Value}
    {f13 : Addr} {od13 an13 : Option Addr} {sl13 : Array (Option Value)} {oc13 kV13 dc13 pm13 cd13 ct13 : Value}
    {f14 : Addr} {od14 an14 : Option Addr} {sl14 : Array (Option Value)} {oc14 kV14 dc14 pm14 cd14 ct14 : Value}
    {f15 : Addr} {od15 an15 : Option Addr} {sl15 : Array (Option Value)} {oc15 kV15 dc15 pm15 cd15 ct15 : Value}
    {f16 : Addr} {od16 an16 : Option Addr} {sl16 : Array (Option Value)} {oc16 kV16 dc16 pm16 cd16 ct16 : Value}
    {f17 : Addr} {od17 an17 : Option Addr} {sl17 : Array (Option Value)} {oc17 kV17 dc17 pm17 cd17 ct17 : Value}
    {f18 : Addr} {od18 an18 : Option Addr} {sl18 : Array (Option Value)} {oc18 kV18 dc18 pm18 cd18 ct18 : Value}
    {f19 : Addr} {od19 an19 : Option Addr} {sl19 : Array (Option Value)} {oc19 kV19 dc19 pm19 cd19 ct19 : Value}
    {f20 : Addr} {od20 an20 : Option Addr} {sl20 : Array (Option Value)} {oc20 kV20 dc20 pm20 cd20 ct20 : Value}
    {f21 : Addr} {od21 an21 : Option Addr} {sl21 : Array (Option Value)} {oc21 kV21 dc21 pm21 cd21 ct21 : Value}
    {f22 : Addr} {od22 an22 : Option Addr} {sl22 : Array (Option Value)} {oc22 kV22 dc22 pm22 cd22 ct22 : Value}
    {f23 : Addr} {od23 an23 : Option Addr} {sl23 : Array (Option Value)} {oc23 kV23 dc23 pm23 cd23 ct23 : Value}
    {f24 : Addr} {od24 an24 : Option Addr} {sl24 : Array (Option Value)} {oc24 kV24 dc24 pm24 cd24 ct24 : Value}
    {f25 : Addr} {od25 an25 : Option Addr} {sl25 : Array (Option Value)} {oc25 kV25 dc25 pm25 cd25 ct25 : Value}
    {f26 : Addr} {od26 an26 : Option Addr} {sl26 : Array (Option Value)} {oc26 kV26 dc26 pm26 cd26 ct26 : Value}
    {f27 : Addr} {od27 an27 : Option Addr} {sl27 : Array (Option Value)} {oc27 kV27 dc27 pm27 cd27 ct27 : Value}
    {f28 : Addr} {od28 an28 : Option Addr} {sl28 : Array (Option Value)} {oc28 kV28 dc28 pm28 cd28 ct28 : Value}
    {f29 : Addr} {od29 an29 : Option Addr} {sl29 : Array (Option Value)} {oc29 kV29 dc29 pm29 cd29 ct29 : Value}
    {f30 : Addr} {od30 an30 : Option Addr} {sl30 : Array (Option Value)} {oc30 kV30 dc30 pm30 cd30 ct30 : Value}
    {f31 : Addr} {od31 an31 : Option Addr} {sl31 : Array (Option Value)} {oc31 kV31 dc31 pm31 cd31 ct31 : Value}
    {f32 : Addr} {od32 an32 : Option Addr} {sl32 : Array (Option Value)} {oc32 kV32 dc32 pm32 cd32 ct32 : Value}
    {f33 : Addr} {od33 an33 : Option Addr} {sl33 : Array (Option Value)} {oc33 kV33 dc33 pm33 cd33 ct33 : Value}
    {f34 : Addr} {od34 an34 : Option Addr} {sl34 : Array (Option Value)} {oc34 kV34 dc34 pm34 cd34 ct34 : Value}
    {f35 : Addr} {od35 an35 : Option Addr} {sl35 : Array (Option Value)} {oc35 kV35 dc35 pm35 cd35 ct35 : Value}
    {f36 : Addr} {od36 an36 : Option Addr} {sl36 : Array (Option Value)} {oc36 kV36 dc36 pm36 cd36 ct36 : Value}
    {f37 : Addr} {od37 an37 : Option Addr} {sl37 : Array (Option Value)} {oc37 kV37 dc37 pm37 cd37 ct37 : Value}
    {f38 : Addr} {od38 an38 : Option Addr} {sl38 : Array (Option Value)} {oc38 kV38 dc38 pm38 cd38 ct38 : Value}
    {f39 : Addr} {od39 an39 : Option Addr} {sl39 : Array (Option Value)} {oc39 kV39 dc39 pm39 cd39 ct39 : Value}
    {f40 : Addr} {od40 an40 : Option Addr} {sl40 : Array (Option Value)} {oc40 kV40 dc40 pm40 cd40 ct40 : Value}
    {f41 : Addr} {od41 an41 : Option Addr} {sl41 : Array (Option Value)} {oc41 kV41 dc41 pm41 cd41 ct41 : Value}
    {f42 : Addr} {od42 an42 : Option Addr} {sl42 : Array (Option Value)} {oc42 kV42 dc42 pm42 cd42 ct42 : Value}
    (a0 : PySem.W.nsIn K mainGlobals "_wall" = some (some (.ref f0)))
    (l0 : K.lookup f0 = some ⟨oc0, od0, .func (PySem.W.fnOf "_wall" "_wall" (defArgs s_wall) (defBody s_wall)
      (defScope s_wall) .none kV0 dc0 pm0 an0 cd0 ct0), sl0⟩)
    (c0 : PySem.W.codeIn K cd0 "_wall" = true) (k0 : PySem.W.keepIn K (.ref f0) = true)
    (a1 : PySem.W.nsIn K mainGlobals "walked_from" = some (some (.ref f1)))
    (l1 : K.lookup f1 = some ⟨oc1, od1, .func (PySem.W.fnOf "walked_from" "walked_from" (defArgs s_walked_from) (defBody s_walked_from)
      (defScope s_walked_from) .none kV1 dc1 pm1 an1 cd1 ct1), sl1⟩)
    (c1 : PySem.W.codeIn K cd1 "walked_from" = true) (k1 : PySem.W.keepIn K (.ref f1) = true)
    (a2 : PySem.W.nsIn K mainGlobals "best_of" = some (some (.ref f2)))
    (l2 : K.lookup f2 = some ⟨oc2, od2, .func (PySem.W.fnOf "best_of" "best_of" (defArgs s_best_of) (defBody s_best_of)
      (defScope s_best_of) .none kV2 dc2 pm2 an2 cd2 ct2), sl2⟩)
    (c2 : PySem.W.codeIn K cd2 "best_of" = true) (k2 : PySem.W.keepIn K (.ref f2) = true)
    (a3 : PySem.W.nsIn K mainGlobals "tied_on" = some (some (.ref f3)))
    (l3 : K.lookup f3 = some ⟨oc3, od3, .func (PySem.W.fnOf "tied_on" "tied_on" (defArgs s_tied_on) (defBody s_tied_on)
      (defScope s_tied_on) .none kV3 dc3 pm3 an3 cd3 ct3), sl3⟩)
    (c3 : PySem.W.codeIn K cd3 "tied_on" = true) (k3 : PySem.W.keepIn K (.ref f3) = true)
    (a4 : PySem.W.nsIn K mainGlobals "ways_at" = some (some (.ref f4)))
    (l4 : K.lookup f4 = some ⟨oc4, od4, .func (PySem.W.fnOf "ways_at" "ways_at" (defArgs s_ways_at) (defBody s_ways_at)
      (defScope s_ways_at) .none kV4 dc4 pm4 an4 cd4 ct4), sl4⟩)
    (c4 : PySem.W.codeIn K cd4 "ways_at" = true) (k4 : PySem.W.keepIn K (.ref f4) = true)
    (a5 : PySem.W.nsIn K mainGlobals "best_at" = some (some (.ref f5)))
    (l5 : K.lookup f5 = some ⟨oc5, od5, .func (PySem.W.fnOf "best_at" "best_at" (defArgs s_best_at) (defBody s_best_at)
      (defScope s_best_at) .none kV5 dc5 pm5 an5 cd5 ct5), sl5⟩)
    (c5 : PySem.W.codeIn K cd5 "best_at" = true) (k5 : PySem.W.keepIn K (.ref f5) = true)
    (a6 : PySem.W.nsIn K mainGlobals "the_keeping" = some (some (.ref f6)))
    (l6 : K.lookup f6 = some ⟨oc6, od6, .func (PySem.W.fnOf "the_keeping" "the_keeping" (defArgs s_the_keeping) (defBody s_the_keeping)
      (defScope s_the_keeping) .none kV6 dc6 pm6 an6 cd6 ct6), sl6⟩)
    (c6 : PySem.W.codeIn K cd6 "the_keeping" = true) (k6 : PySem.W.keepIn K (.ref f6) = true)
    (a7 : PySem.W.nsIn K mainGlobals "is_count" = some (some (.ref f7)))
    (l7 : K.lookup f7 = some ⟨oc7, od7, .func (PySem.W.fnOf "is_count" "is_count" (defArgs s_is_count) (defBody s_is_count)
      (defScope s_is_count) .none kV7 dc7 pm7 an7 cd7 ct7), sl7⟩)
    (c7 : PySem.W.codeIn K cd7 "is_count" = true) (k7 : PySem.W.keepIn K (.ref f7) = true)
    (a8 : PySem.W.findIn K (.ref C0) "__init__" = some (some (.ref f8))) (i8 : PySem.W.isFn K (.ref f8) = true)
    (l8 : K.lookup f8 = some ⟨oc8, od8, .func (PySem.W.fnOf "__init__" "Ties.__init__" (defArgs s_Ties_init) (defBody s_Ties_init)
      (defScope s_Ties_init) .none kV8 dc8 pm8 an8 cd8 ct8), sl8⟩)
    (c8 : PySem.W.codeIn K cd8 "Ties.__init__" = true) (k8 : PySem.W.keepIn K (.ref f8) = true)
    (a9 : PySem.W.findIn K (.ref C0) "ever" = some (some (.ref f9))) (i9 : PySem.W.isFn K (.ref f9) = true)
    (l9 : K.lookup f9 = some ⟨oc9, od9, .func (PySem.W.fnOf "ever" "Ties.ever" (defArgs s_Ties_ever) (defBody s_Ties_ever)
      (defScope s_Ties_ever) .none kV9 dc9 pm9 an9 cd9 ct9), sl9⟩)
    (c9 : PySem.W.codeIn K cd9 "Ties.ever" = true) (k9 : PySem.W.keepIn K (.ref f9) = true)
    (a10 : PySem.W.findIn K (.ref C0) "living" = some (some (.ref f10))) (i10 : PySem.W.isFn K (.ref f10) = true)
    (l10 : K.lookup f10 = some ⟨oc10, od10, .func (PySem.W.fnOf "living" "Ties.living" (defArgs s_Ties_living) (defBody s_Ties_living)
      (defScope s_Ties_living) .none kV10 dc10 pm10 an10 cd10 ct10), sl10⟩)
    (c10 : PySem.W.codeIn K cd10 "Ties.living" = true) (k10 : PySem.W.keepIn K (.ref f10) = true)
    (a11 : PySem.W.findIn K (.ref C0) "free" = some (some (.ref f11))) (i11 : PySem.W.isFn K (.ref f11) = true)
    (l11 : K.lookup f11 = some ⟨oc11, od11, .func (PySem.W.fnOf "free" "Ties.free" (defArgs s_Ties_free) (defBody s_Ties_free)
      (defScope s_Ties_free) .none kV11 dc11 pm11 an11 cd11 ct11), sl11⟩)
    (c11 : PySem.W.codeIn K cd11 "Ties.free" = true) (k11 : PySem.W.keepIn K (.ref f11) = true)
    (a12 : PySem.W.findIn K (.ref C0) "rows" = some (some (.ref f12))) (i12 : PySem.W.isFn K (.ref f12) = true)
    (l12 : K.lookup f12 = some ⟨oc12, od12, .func (PySem.W.fnOf "rows" "Ties.rows" (defArgs s_Ties_rows) (defBody s_Ties_rows)
      (defScope s_Ties_rows) .none kV12 dc12 pm12 an12 cd12 ct12), sl12⟩)
    (c12 : PySem.W.codeIn K cd12 "Ties.rows" = true) (k12 : PySem.W.keepIn K (.ref f12) = true)
    (a13 : PySem.W.findIn K (.ref C0) "lives" = some (some (.ref f13))) (i13 : PySem.W.isFn K (.ref f13) = true)
    (l13 : K.lookup f13 = some ⟨oc13, od13, .func (PySem.W.fnOf "lives" "Ties.lives" (defArgs s_Ties_lives) (defBody s_Ties_lives)
      (defScope s_Ties_lives) .none kV13 dc13 pm13 an13 cd13 ct13), sl13⟩)
    (c13 : PySem.W.codeIn K cd13 "Ties.lives" = true) (k13 : PySem.W.keepIn K (.ref f13) = true)
    (a14 : PySem.W.findIn K (.ref C0) "has" = some (some (.ref f14))) (i14 : PySem.W.isFn K (.ref f14) = true)
    (l14 : K.lookup f14 = some ⟨oc14, od14, .func (PySem.W.fnOf "has" "Ties.has" (defArgs s_Ties_has) (defBody s_Ties_has)
      (defScope s_Ties_has) .none kV14 dc14 pm14 an14 cd14 ct14), sl14⟩)
    (c14 : PySem.W.codeIn K cd14 "Ties.has" = true) (k14 : PySem.W.keepIn K (.ref f14) = true)
    (a15 : PySem.W.findIn K (.ref C0) "tied" = some (some (.ref f15))) (i15 : PySem.W.isFn K (.ref f15) = true)
    (l15 : K.lookup f15 = some ⟨oc15, od15, .func (PySem.W.fnOf "tied" "Ties.tied" (defArgs s_Ties_tied) (defBody s_Ties_tied)
      (defScope s_Ties_tied) .none kV15 dc15 pm15 an15 cd15 ct15), sl15⟩)
    (c15 : PySem.W.codeIn K cd15 "Ties.tied" = true) (k15 : PySem.W.keepIn K (.ref f15) = true)
    (a16 : PySem.W.findIn K (.ref C0) "way" = some (some (.ref f16))) (i16 : PySem.W.isFn K (.ref f16) = true)
    (l16 : K.lookup f16 = some ⟨oc16, od16, .func (PySem.W.fnOf "way" "Ties.way" (defArgs s_Ties_way) (defBody s_Ties_way)
      (defScope s_Ties_way) .none kV16 dc16 pm16 an16 cd16 ct16), sl16⟩)
    (c16 : PySem.W.codeIn K cd16 "Ties.way" = true) (k16 : PySem.W.keepIn K (.ref f16) = true)
    (a17 : PySem.W.findIn K (.ref C0) "spread" = some (some (.ref f17))) (i17 : PySem.W.isFn K (.ref f17) = true)
    (l17 : K.lookup f17 = some ⟨oc17, od17, .func (PySem.W.fnOf "spread" "Ties.spread" (defArgs s_Ties_spread) (defBody s_Ties_spread)
      (defScope s_Ties_spread) .none kV17 dc17 pm17 an17 cd17 ct17), sl17⟩)
    (c17 : PySem.W.codeIn K cd17 "Ties.spread" = true) (k17 : PySem.W.keepIn K (.ref f17) = true)
    (a18 : PySem.W.findIn K (.ref C0) "fork" = some (some (.ref f18))) (i18 : PySem.W.isFn K (.ref f18) = true)
    (l18 : K.lookup f18 = some ⟨oc18, od18, .func (PySem.W.fnOf "fork" "Ties.fork" (defArgs s_Ties_fork) (defBody s_Ties_fork)
      (defScope s_Ties_fork) .none kV18 dc18 pm18 an18 cd18 ct18), sl18⟩)
    (c18 : PySem.W.codeIn K cd18 "Ties.fork" = true) (k18 : PySem.W.keepIn K (.ref f18) = true)
    (a19 : PySem.W.findIn K (.ref C0) "end" = some (some (.ref f19))) (i19 : PySem.W.isFn K (.ref f19) = true)
    (l19 : K.lookup f19 = some ⟨oc19, od19, .func (PySem.W.fnOf "end" "Ties.end" (defArgs s_Ties_end) (defBody s_Ties_end)
      (defScope s_Ties_end) .none kV19 dc19 pm19 an19 cd19 ct19), sl19⟩)
    (c19 : PySem.W.codeIn K cd19 "Ties.end" = true) (k19 : PySem.W.keepIn K (.ref f19) = true)
    (a20 : PySem.W.findIn K (.ref C0) "may_go" = some (some (.ref f20))) (i20 : PySem.W.isFn K (.ref f20) = true)
    (l20 : K.lookup f20 = some ⟨oc20, od20, .func (PySem.W.fnOf "may_go" "Ties.may_go" (defArgs s_Ties_may_go) (defBody s_Ties_may_go)
      (defScope s_Ties_may_go) .none kV20 dc20 pm20 an20 cd20 ct20), sl20⟩)
    (c20 : PySem.W.codeIn K cd20 "Ties.may_go" = true) (k20 : PySem.W.keepIn K (.ref f20) = true)
    (a21 : PySem.W.findIn K (.ref C0) "taken_out" = some (some (.ref f21))) (i21 : PySem.W.isFn K (.ref f21) = true)
    (l21 : K.lookup f21 = some ⟨oc21, od21, .func (PySem.W.fnOf "taken_out" "Ties.taken_out" (defArgs s_Ties_taken_out) (defBody s_Ties_taken_out)
      (defScope s_Ties_taken_out) .none kV21 dc21 pm21 an21 cd21 ct21), sl21⟩)
    (c21 : PySem.W.codeIn K cd21 "Ties.taken_out" = true) (k21 : PySem.W.keepIn K (.ref f21) = true)
    (a22 : PySem.W.findIn K (.ref C0) "copied" = some (some (.ref f22))) (i22 : PySem.W.isFn K (.ref f22) = true)
    (l22 : K.lookup f22 = some ⟨oc22, od22, .func (PySem.W.fnOf "copied" "Ties.copied" (defArgs s_Ties_copied) (defBody s_Ties_copied)
      (defScope s_Ties_copied) .none kV22 dc22 pm22 an22 cd22 ct22), sl22⟩)
    (c22 : PySem.W.codeIn K cd22 "Ties.copied" = true) (k22 : PySem.W.keepIn K (.ref f22) = true)
    (a23 : PySem.W.findIn K (.ref C0) "__eq__" = some (some (.ref f23))) (i23 : PySem.W.isFn K (.ref f23) = true)
    (l23 : K.lookup f23 = some ⟨oc23, od23, .func (PySem.W.fnOf "__eq__" "Ties.__eq__" (defArgs s_Ties_eq) (defBody s_Ties_eq)
      (defScope s_Ties_eq) .none kV23 dc23 pm23 an23 cd23 ct23), sl23⟩)
    (c23 : PySem.W.codeIn K cd23 "Ties.__eq__" = true) (k23 : PySem.W.keepIn K (.ref f23) = true)
    (a24 : PySem.W.findIn K (.ref C0) "told" = some (some (.ref f24))) (i24 : PySem.W.isFn K (.ref f24) = true)
    (l24 : K.lookup f24 = some ⟨oc24, od24, .func (PySem.W.fnOf "told" "Ties.told" (defArgs s_Ties_told) (defBody s_Ties_told)
      (defScope s_Ties_told) .none kV24 dc24 pm24 an24 cd24 ct24), sl24⟩)
    (c24 : PySem.W.codeIn K cd24 "Ties.told" = true) (k24 : PySem.W.keepIn K (.ref f24) = true)
    (a25 : PySem.W.findIn K (.ref C0) "__len__" = some (some (.ref f25))) (i25 : PySem.W.isFn K (.ref f25) = true)
    (l25 : K.lookup f25 = some ⟨oc25, od25, .func (PySem.W.fnOf "__len__" "Ties.__len__" (defArgs s_Ties_len) (defBody s_Ties_len)
      (defScope s_Ties_len) .none kV25 dc25 pm25 an25 cd25 ct25), sl25⟩)
    (c25 : PySem.W.codeIn K cd25 "Ties.__len__" = true) (k25 : PySem.W.keepIn K (.ref f25) = true)
    (a26 : PySem.W.nsIn K mainGlobals "made" = some (some (.ref f26)))
    (l26 : K.lookup f26 = some ⟨oc26, od26, .func (PySem.W.fnOf "made" "made" (defArgs s_made) (defBody s_made)
      (defScope s_made) .none kV26 dc26 pm26 an26 cd26 ct26), sl26⟩)
    (c26 : PySem.W.codeIn K cd26 "made" = true) (k26 : PySem.W.keepIn K (.ref f26) = true)
    (a27 : PySem.W.nsIn K mainGlobals "are_worlds" = some (some (.ref f27)))
    (l27 : K.lookup f27 = some ⟨oc27, od27, .func (PySem.W.fnOf "are_worlds" "are_worlds" (defArgs s_are_worlds) (defBody s_are_worlds)
      (defScope s_are_worlds) .none kV27 dc27 pm27 an27 cd27 ct27), sl27⟩)
    (c27 : PySem.W.codeIn K cd27 "are_worlds" = true) (k27 : PySem.W.keepIn K (.ref f27) = true)
    (a28 : PySem.W.nsIn K mainGlobals "are_pairs" = some (some (.ref f28)))
    (l28 : K.lookup f28 = some ⟨oc28, od28, .func (PySem.W.fnOf "are_pairs" "are_pairs" (defArgs s_are_pairs) (defBody s_are_pairs)
      (defScope s_are_pairs) .none kV28 dc28 pm28 an28 cd28 ct28), sl28⟩)
    (c28 : PySem.W.codeIn K cd28 "are_pairs" = true) (k28 : PySem.W.keepIn K (.ref f28) = true)
    (a29 : PySem.W.nsIn K mainGlobals "is_tree" = some (some (.ref f29)))
    (l29 : K.lookup f29 = some ⟨oc29, od29, .func (PySem.W.fnOf "is_tree" "is_tree" (defArgs s_is_tree) (defBody s_is_tree)
      (defScope s_is_tree) .none kV29 dc29 pm29 an29 cd29 ct29), sl29⟩)
    (c29 : PySem.W.codeIn K cd29 "is_tree" = true) (k29 : PySem.W.keepIn K (.ref f29) = true)
    (a30 : PySem.W.nsIn K mainGlobals "ties_of" = some (some (.ref f30)))
    (l30 : K.lookup f30 = some ⟨oc30, od30, .func (PySem.W.fnOf "ties_of" "ties_of" (defArgs s_ties_of) (defBody s_ties_of)
      (defScope s_ties_of) .none kV30 dc30 pm30 an30 cd30 ct30), sl30⟩)
    (c30 : PySem.W.codeIn K cd30 "ties_of" = true) (k30 : PySem.W.keepIn K (.ref f30) = true)
    (a31 : PySem.W.nsIn K mainGlobals "_law_pot" = some (some (.ref f31)))
    (l31 : K.lookup f31 = some ⟨oc31, od31, .func (PySem.W.fnOf "_law_pot" "_law_pot" (defArgs s_law_pot) (defBody s_law_pot)
      (defScope s_law_pot) .none kV31 dc31 pm31 an31 cd31 ct31), sl31⟩)
    (c31 : PySem.W.codeIn K cd31 "_law_pot" = true) (k31 : PySem.W.keepIn K (.ref f31) = true)
    (a32 : PySem.W.nsIn K mainGlobals "_law_take" = some (some (.ref f32)))
    (l32 : K.lookup f32 = some ⟨oc32, od32, .func (PySem.W.fnOf "_law_take" "_law_take" (defArgs s_law_take) (defBody s_law_take)
      (defScope s_law_take) .none kV32 dc32 pm32 an32 cd32 ct32), sl32⟩)
    (c32 : PySem.W.codeIn K cd32 "_law_take" = true) (k32 : PySem.W.keepIn K (.ref f32) = true)
    (a33 : PySem.W.nsIn K mainGlobals "_law_pick" = some (some (.ref f33)))
    (l33 : K.lookup f33 = some ⟨oc33, od33, .func (PySem.W.fnOf "_law_pick" "_law_pick" (defArgs s_law_pick) (defBody s_law_pick)
      (defScope s_law_pick) .none kV33 dc33 pm33 an33 cd33 ct33), sl33⟩)
    (c33 : PySem.W.codeIn K cd33 "_law_pick" = true) (k33 : PySem.W.keepIn K (.ref f33) = true)
    (a34 : PySem.W.nsIn K mainGlobals "_law_grown" = some (some (.ref f34)))
    (l34 : K.lookup f34 = some ⟨oc34, od34, .func (PySem.W.fnOf "_law_grown" "_law_grown" (defArgs s_law_grown) (defBody s_law_grown)
      (defScope s_law_grown) .none kV34 dc34 pm34 an34 cd34 ct34), sl34⟩)
    (c34 : PySem.W.codeIn K cd34 "_law_grown" = true) (k34 : PySem.W.keepIn K (.ref f34) = true)
    (a35 : PySem.W.nsIn K mainGlobals "_law_tree" = some (some (.ref f35)))
    (l35 : K.lookup f35 = some ⟨oc35, od35, .func (PySem.W.fnOf "_law_tree" "_law_tree" (defArgs s_law_tree) (defBody s_law_tree)
      (defScope s_law_tree) .none kV35 dc35 pm35 an35 cd35 ct35), sl35⟩)
    (c35 : PySem.W.codeIn K cd35 "_law_tree" = true) (k35 : PySem.W.keepIn K (.ref f35) = true)
    (a36 : PySem.W.nsIn K mainGlobals "_law_numbers" = some (some (.ref f36)))
    (l36 : K.lookup f36 = some ⟨oc36, od36, .func (PySem.W.fnOf "_law_numbers" "_law_numbers" (defArgs s_law_numbers) (defBody s_law_numbers)
      (defScope s_law_numbers) .none kV36 dc36 pm36 an36 cd36 ct36), sl36⟩)
    (c36 : PySem.W.codeIn K cd36 "_law_numbers" = true) (k36 : PySem.W.keepIn K (.ref f36) = true)
    (a37 : PySem.W.nsIn K mainGlobals "_law_all" = some (some (.ref f37)))
    (l37 : K.lookup f37 = some ⟨oc37, od37, .func (PySem.W.fnOf "_law_all" "_law_all" (defArgs s_law_all) (defBody s_law_all)
      (defScope s_law_all) .none kV37 dc37 pm37 an37 cd37 ct37), sl37⟩)
    (c37 : PySem.W.codeIn K cd37 "_law_all" = true) (k37 : PySem.W.keepIn K (.ref f37) = true)
    (a38 : PySem.W.nsIn K mainGlobals "_law_cost" = some (some (.ref f38)))
    (l38 : K.lookup f38 = some ⟨oc38, od38, .func (PySem.W.fnOf "_law_cost" "_law_cost" (defArgs s_law_cost) (defBody s_law_cost)
      (defScope s_law_cost) .none kV38 dc38 pm38 an38 cd38 ct38), sl38⟩)
    (c38 : PySem.W.codeIn K cd38 "_law_cost" = true) (k38 : PySem.W.keepIn K (.ref f38) = true)
    (a39 : PySem.W.nsIn K mainGlobals "_law_least" = some (some (.ref f39)))
    (l39 : K.lookup f39 = some ⟨oc39, od39, .func (PySem.W.fnOf "_law_least" "_law_least" (defArgs s_law_least) (defBody s_law_least)
      (defScope s_law_least) .none kV39 dc39 pm39 an39 cd39 ct39), sl39⟩)
    (c39 : PySem.W.codeIn K cd39 "_law_least" = true) (k39 : PySem.W.keepIn K (.ref f39) = true)
    (a40 : PySem.W.nsIn K mainGlobals "_law_few" = some (some (.ref f40)))
    (l40 : K.lookup f40 = some ⟨oc40, od40, .func (PySem.W.fnOf "_law_few" "_law_few" (defArgs s_law_few) (defBody s_law_few)
      (defScope s_law_few) .none kV40 dc40 pm40 an40 cd40 ct40), sl40⟩)
    (c40 : PySem.W.codeIn K cd40 "_law_few" = true) (k40 : PySem.W.keepIn K (.ref f40) = true)
    (a41 : PySem.W.nsIn K mainGlobals "_law_right" = some (some (.ref f41)))
    (l41 : K.lookup f41 = some ⟨oc41, od41, .func (PySem.W.fnOf "_law_right" "_law_right" (defArgs s_law_right) (defBody s_law_right)
      (defScope s_law_right) .none kV41 dc41 pm41 an41 cd41 ct41), sl41⟩)
    (c41 : PySem.W.codeIn K cd41 "_law_right" = true) (k41 : PySem.W.keepIn K (.ref f41) = true)
    (a42 : PySem.W.nsIn K mainGlobals "law" = some (some (.ref f42)))
    (l42 : K.lookup f42 = some ⟨oc42, od42, .func (PySem.W.fnOf "law" "law" (defArgs s_law) (defBody s_law)
      (defScope s_law) .none kV42 dc42 pm42 an42 cd42 ct42), sl42⟩)
    (c42 : PySem.W.codeIn K cd42 "law" = true) (k42 : PySem.W.keepIn K (.ref f42) = true)
    (pg0 : PySem.W.plainGet K C0 Str.empty = true) (hd0 : PySem.W.hasDictIn K C0 = true)
    (po0 : PySem.W.plainOver K C0 = true) (sa0 : PySem.W.findIn K (.ref C0) "__setattr__" = some (some (.builtin "object.__setattr__")))
    (mk0 : PySem.W.makesIn K C0 = true) (kc0 : PySem.W.keepIn K (.ref C0) = true)
    (na0_near : PySem.W.findIn K (.ref C0) "near" = some none)
    (na0_own_ever : PySem.W.findIn K (.ref C0) "own_ever" = some none)
    (na0_own_living : PySem.W.findIn K (.ref C0) "own_living" = some none)
    (on : PySem.W.specialIn K (.builtin "object.__class__") "__get__" = some (some (.builtin "getset_descriptor.__get__"))) (ot : PySem.W.takesIn K (.builtin "object.__class__") = some true)
    (oa0 : PySem.W.findIn K (.ref C0) "__class__" = some (some (.builtin "object.__class__"))) (om0 : PySem.W.mroIn K C0 (.type "object") = some true)
    (oc0_ : PySem.W.isClsIn K C0 = true) (oy0 : PySem.W.typeIn K (.ref C0) = some (.type "type"))
    (nn0 : PySem.W.findIn K (.ref C0) "__ne__" = some (some (.builtin "object.__ne__")))
    {t_FEWEST_TIES : Tok} (g_FEWEST_TIES : PySem.W.nsIn K mainGlobals "FEWEST_TIES" = some (some (.int 3 t_FEWEST_TIES)))
    (z_LookupError : PySem.W.nsIn K mainGlobals "LookupError" = some none)
    (z_ValueError : PySem.W.nsIn K mainGlobals "ValueError" = some none)
    (z_all : PySem.W.nsIn K mainGlobals "all" = some none)
    (z_bool : PySem.W.nsIn K mainGlobals "bool" = some none)
    (z_dict : PySem.W.nsIn K mainGlobals "dict" = some none)
    (z_divmod : PySem.W.nsIn K mainGlobals "divmod" = some none)
    (z_int : PySem.W.nsIn K mainGlobals "int" = some none)
    (z_isinstance : PySem.W.nsIn K mainGlobals "isinstance" = some none)
    (z_len : PySem.W.nsIn K mainGlobals "len" = some none)
    (z_list : PySem.W.nsIn K mainGlobals "list" = some none)
    (z_max : PySem.W.nsIn K mainGlobals "max" = some none)
    (z_min : PySem.W.nsIn K mainGlobals "min" = some none)
    (z_range : PySem.W.nsIn K mainGlobals "range" = some none)
    (z_set : PySem.W.nsIn K mainGlobals "set" = some none)
    (z_sorted : PySem.W.nsIn K mainGlobals "sorted" = some none)
    (z_sum : PySem.W.nsIn K mainGlobals "sum" = some none)
    (z_tuple : PySem.W.nsIn K mainGlobals "tuple" = some none)
    (z_zip : PySem.W.nsIn K mainGlobals "zip" = some none)
    : ∃ fd : FuncData, (∀ (s : Shared) (v : Value), BindsTo s fd ⟨[v], []⟩ [("_law_script", v)]) ∧
      ∀ base : Heap, K.In base → base.Ns mainGlobals mg →
        FnG l.prog w K mg base 9 fa fd ["_law_script"] (sp_law K) := by
  have e := hfa.symm.trans (PySem.W.mg_of X N a42)
  cases e
  have F0 := fund0 (st := s_wall) l0 c0 k0
  have b0 := bindN (ps := ["k"]) F0 fun _ _ _ _ _ _ us hl => match us, hl with | [_], _ => rfl
  have F1 := fund0 (st := s_walked_from) l1 c1 k1
  have b1 := bindN (ps := ["ties", "root"]) F1 fun _ _ _ _ _ _ us hl => match us, hl with | [_, _], _ => rfl
  have F2 := fund0 (st := s_best_of) l2 c2 k2
  have b2 := bindN (ps := ["ways"]) F2 fun _ _ _ _ _ _ us hl => match us, hl with | [_], _ => rfl
  have F3 := fund0 (st := s_tied_on) l3 c3 k3
  have b3 := bindN (ps := ["ways", "beneath"]) F3 fun _ _ _ _ _ _ us hl => match us, hl with | [_, _], _ => rfl
  have F4 := fund0 (st := s_ways_at) l4 c4 k4
  have b4 := bindN (ps := ["ties", "told", "root"]) F4 fun _ _ _ _ _ _ us hl => match us, hl with | [_, _, _], _ => rfl
  have F5 := fund0 (st := s_best_at) l5 c5 k5
  have b5 := bindN (ps := ["ties", "told", "root"]) F5 fun _ _ _ _ _ _ us hl => match us, hl with | [_, _, _], _ => rfl
  have F6 := fund0 (st := s_the_keeping) l6 c6 k6
  have b6 := bindN (ps := ["ties", "numbers"]) F6 fun _ _ _ _ _ _ us hl => match us, hl with | [_, _], _ => rfl
  have F7 := fund0 (st := s_is_count) l7 c7 k7
  have b7 := bindN (ps := ["thing"]) F7 fun _ _ _ _ _ _ us hl => match us, hl with | [_], _ => rfl
  have F8 := fund0 (st := s_Ties_init) l8 c8 k8
  have b8 := bindN (ps := ["self"]) F8 fun _ _ _ _ _ _ us hl => match us, hl with | [_], _ => rfl
  have F9 := fund0 (st := s_Ties_ever) l9 c9 k9
  have b9 := bindN (ps := ["self"]) F9 fun _ _ _ _ _ _ us hl => match us, hl with | [_], _ => rfl
  have F10 := fund0 (st := s_Ties_living) l10 c10 k10
  have b10 := bindN (ps := ["self"]) F10 fun _ _ _ _ _ _ us hl => match us, hl with | [_], _ => rfl
  have F11 := fund0 (st := s_Ties_free) l11 c11 k11
  have b11 := bindN (ps := ["self"]) F11 fun _ _ _ _ _ _ us hl => match us, hl with | [_], _ => rfl
  have F12 := fund0 (st := s_Ties_rows) l12 c12 k12
  have b12 := bindN (ps := ["self"]) F12 fun _ _ _ _ _ _ us hl => match us, hl with | [_], _ => rfl
  have F13 := fund0 (st := s_Ties_lives) l13 c13 k13
  have b13 := bindN (ps := ["self", "thing"]) F13 fun _ _ _ _ _ _ us hl => match us, hl with | [_, _], _ => rfl
  have F14 := fund0 (st := s_Ties_has) l14 c14 k14
  have b14 := bindN (ps := ["self", "thing"]) F14 fun _ _ _ _ _ _ us hl => match us, hl with | [_, _], _ => rfl
  have F15 := fund0 (st := s_Ties_tied) l15 c15 k15
  have b15 := bindN (ps := ["self", "world"]) F15 fun _ _ _ _ _ _ us hl => match us, hl with | [_, _], _ => rfl
  have F16 := fund0 (st := s_Ties_way) l16 c16 k16
  have b16 := bindN (ps := ["self", "one", "other"]) F16 fun _ _ _ _ _ _ us hl => match us, hl with | [_, _, _], _ => rfl
  have F17 := fund0 (st := s_Ties_spread) l17 c17 k17
  have b17 := bindN (ps := ["self", "goal"]) F17 fun _ _ _ _ _ _ us hl => match us, hl with | [_, _], _ => rfl
  have F18 := fund0 (st := s_Ties_fork) l18 c18 k18
  have b18 := bindN (ps := ["self", "world"]) F18 fun _ _ _ _ _ _ us hl => match us, hl with | [_, _], _ => rfl
  have F19 := fund0 (st := s_Ties_end) l19 c19 k19
  have b19 := bindN (ps := ["self", "world"]) F19 fun _ _ _ _ _ _ us hl => match us, hl with | [_, _], _ => rfl
  have F20 := fund0 (st := s_Ties_may_go) l20 c20 k20
  have b20 := bindN (ps := ["self", "world"]) F20 fun _ _ _ _ _ _ us hl => match us, hl with | [_, _], _ => rfl
  have F21 := fund0 (st := s_Ties_taken_out) l21 c21 k21
  have b21 := bindN (ps := ["self", "world"]) F21 fun _ _ _ _ _ _ us hl => match us, hl with | [_, _], _ => rfl
  have F22 := fund0 (st := s_Ties_copied) l22 c22 k22
  have b22 := bindN (ps := ["self"]) F22 fun _ _ _ _ _ _ us hl => match us, hl with | [_], _ => rfl
  have F23 := fund0 (st := s_Ties_eq) l23 c23 k23
  have b23 := bindN (ps := ["self", "other"]) F23 fun _ _ _ _ _ _ us hl => match us, hl with | [_, _], _ => rfl
  have F24 := fund0 (st := s_Ties_told) l24 c24 k24
  have b24 := bindN (ps := ["self"]) F24 fun _ _ _ _ _ _ us hl => match us, hl with | [_], _ => rfl
  have F25 := fund0 (st := s_Ties_len) l25 c25 k25
  have b25 := bindN (ps := ["self"]) F25 fun _ _ _ _ _ _ us hl => match us, hl with | [_], _ => rfl
  have F26 := fund0 (st := s_made) l26 c26 k26
  have b26 := bindN (ps := ["ever", "living", "worlds", "rows"]) F26 fun _ _ _ _ _ _ us hl => match us, hl with | [_, _, _, _], _ => rfl
  have F27 := fund0 (st := s_are_worlds) l27 c27 k27
  have b27 := bindN (ps := ["thing", "ever"]) F27 fun _ _ _ _ _ _ us hl => match us, hl with | [_, _], _ => rfl
  have F28 := fund0 (st := s_are_pairs) l28 c28 k28
  have b28 := bindN (ps := ["thing", "worlds"]) F28 fun _ _ _ _ _ _ us hl => match us, hl with | [_, _], _ => rfl
  have F29 := fund0 (st := s_is_tree) l29 c29 k29
  have b29 := bindN (ps := ["ties"]) F29 fun _ _ _ _ _ _ us hl => match us, hl with | [_], _ => rfl
  have F30 := fund0 (st := s_ties_of) l30 c30 k30
  have b30 := bindN (ps := ["ever", "living", "free", "rows"]) F30 fun _ _ _ _ _ _ us hl => match us, hl with | [_, _, _, _], _ => rfl
  have F31 := fund0 (st := s_law_pot) l31 c31 k31
  have b31 := bindN (ps := ["_law_script", "_law_k"]) F31 fun _ _ _ _ _ _ us hl => match us, hl with | [_, _], _ => rfl
  have F32 := fund0 (st := s_law_take) l32 c32 k32
  have b32 := bindN (ps := ["_law_pot_here", "_law_many"]) F32 fun _ _ _ _ _ _ us hl => match us, hl with | [_, _], _ => rfl
  have F33 := fund0 (st := s_law_pick) l33 c33 k33
  have b33 := bindN (ps := ["_law_pot_here", "_law_some"]) F33 fun _ _ _ _ _ _ us hl => match us, hl with | [_, _], _ => rfl
  have F34 := fund0 (st := s_law_grown) l34 c34 k34
  have b34 := bindN (ps := ["_law_pot_here", "_law_most", "_law_steps"]) F34 fun _ _ _ _ _ _ us hl => match us, hl with | [_, _, _], _ => rfl
  have F35 := fund0 (st := s_law_tree) l35 c35 k35
  have b35 := bindN (ps := ["_law_pot_here", "_law_most", "_law_steps"]) F35 fun _ _ _ _ _ _ us hl => match us, hl with | [_, _, _], _ => rfl
  have F36 := fund0 (st := s_law_numbers) l36 c36 k36
  have b36 := bindN (ps := ["_law_pot_here", "_law_living"]) F36 fun _ _ _ _ _ _ us hl => match us, hl with | [_, _], _ => rfl
  have F37 := fund0 (st := s_law_all) l37 c37 k37
  have b37 := bindN (ps := ["_law_numbers_here", "_law_free", "_law_some"]) F37 fun _ _ _ _ _ _ us hl => match us, hl with | [_, _, _], _ => rfl
  have F38 := fund0 (st := s_law_cost) l38 c38 k38
  have b38 := bindN (ps := ["_law_rows", "_law_keeping"]) F38 fun _ _ _ _ _ _ us hl => match us, hl with | [_, _], _ => rfl
  have F39 := fund0 (st := s_law_least) l39 c39 k39
  have b39 := bindN (ps := ["_law_rows", "_law_numbers_here", "_law_free"]) F39 fun _ _ _ _ _ _ us hl => match us, hl with | [_, _, _], _ => rfl
  have F40 := fund0 (st := s_law_few) l40 c40 k40
  have b40 := bindN (ps := ["_law_pot_here"]) F40 fun _ _ _ _ _ _ us hl => match us, hl with | [_], _ => rfl
  have F41 := fund0 (st := s_law_right) l41 c41 k41
  have b41 := bindN (ps := ["_law_ties", "_law_world"]) F41 fun _ _ _ _ _ _ us hl => match us, hl with | [_, _], _ => rfl
  have F42 := fund0 (st := s_law) l42 c42 k42
  have b42 := bindN (ps := ["_law_script"]) F42 fun _ _ _ _ _ _ us hl => match us, hl with | [_], _ => rfl
  let T : Txt K mg := {
    c_Ties := C0, cl_Ties := ⟨pg0, hd0, po0, sa0⟩, mg_Ties := PySem.W.mg_of X N ac0
    na_Ties_near := na0_near
    na_Ties_own_ever := na0_own_ever
    na_Ties_own_living := na0_own_living
    ic_Ties := ⟨⟨pg0, hd0, po0, sa0⟩, oa0, on, ot, om0, kit_me⟩
    ot_Ties := by
      intro n hn
      simp only [tyNames, List.mem_cons, List.not_mem_nil, or_false] at hn
      rcases hn with rfl | rfl | rfl | rfl | rfl | rfl | rfl
      · exact kit_other oc0_ oy0 (by kernel_rfl)
      · exact kit_other oc0_ oy0 (by kernel_rfl)
      · exact kit_other oc0_ oy0 (by kernel_rfl)
      · exact kit_other oc0_ oy0 (by kernel_rfl)
      · exact kit_other oc0_ oy0 (by kernel_rfl)
      · exact kit_other oc0_ oy0 (by kernel_rfl)
      · exact kit_other oc0_ oy0 (by kernel_rfl)
    ne_Ties := nn0
    a_wall := _, d_wall := _, F_wall := F0, b_wall := b0, m_wall := PySem.W.mg_of X N a0
    a_walked_from := _, d_walked_from := _, F_walked_from := F1, b_walked_from := b1, m_walked_from := PySem.W.mg_of X N a1
    a_best_of := _, d_best_of := _, F_best_of := F2, b_best_of := b2, m_best_of := PySem.W.mg_of X N a2
    a_tied_on := _, d_tied_on := _, F_tied_on := F3, b_tied_on := b3, m_tied_on := PySem.W.mg_of X N a3
    a_ways_at := _, d_ways_at := _, F_ways_at := F4, b_ways_at := b4, m_ways_at := PySem.W.mg_of X N a4
    a_best_at := _, d_best_at := _, F_best_at := F5, b_best_at := b5, m_best_at := PySem.W.mg_of X N a5
    a_the_keeping := _, d_the_keeping := _, F_the_keeping := F6, b_the_keeping := b6, m_the_keeping := PySem.W.mg_of X N a6
    a_is_count := _, d_is_count := _, F_is_count := F7, b_is_count := b7, m_is_count := PySem.W.mg_of X N a7
    a_Ties_init := _, d_Ties_init := _, F_Ties_init := F8, b_Ties_init := b8, mk_Ties := ⟨mk0, a8, i8, kc0⟩
    a_Ties_ever := _, d_Ties_ever := _, F_Ties_ever := F9, b_Ties_ever := b9, me_Ties_ever := ⟨a9, i9, k9⟩
    a_Ties_living := _, d_Ties_living := _, F_Ties_living := F10, b_Ties_living := b10, me_Ties_living := ⟨a10, i10, k10⟩
    a_Ties_free := _, d_Ties_free := _, F_Ties_free := F11, b_Ties_free := b11, me_Ties_free := ⟨a11, i11, k11⟩
    a_Ties_rows := _, d_Ties_rows := _, F_Ties_rows := F12, b_Ties_rows := b12, me_Ties_rows := ⟨a12, i12, k12⟩
    a_Ties_lives := _, d_Ties_lives := _, F_Ties_lives := F13, b_Ties_lives := b13, me_Ties_lives := ⟨a13, i13, k13⟩
    a_Ties_has := _, d_Ties_has := _, F_Ties_has := F14, b_Ties_has := b14, me_Ties_has := ⟨a14, i14, k14⟩
    a_Ties_tied := _, d_Ties_tied := _, F_Ties_tied := F15, b_Ties_tied := b15, me_Ties_tied := ⟨a15, i15, k15⟩
    a_Ties_way := _, d_Ties_way := _, F_Ties_way := F16, b_Ties_way := b16, me_Ties_way := ⟨a16, i16, k16⟩
    a_Ties_spread := _, d_Ties_spread := _, F_Ties_spread := F17, b_Ties_spread := b17, me_Ties_spread := ⟨a17, i17, k17⟩
    a_Ties_fork := _, d_Ties_fork := _, F_Ties_fork := F18, b_Ties_fork := b18, me_Ties_fork := ⟨a18, i18, k18⟩
    a_Ties_end := _, d_Ties_end := _, F_Ties_end := F19, b_Ties_end := b19, me_Ties_end := ⟨a19, i19, k19⟩
    a_Ties_may_go := _, d_Ties_may_go := _, F_Ties_may_go := F20, b_Ties_may_go := b20, me_Ties_may_go := ⟨a20, i20, k20⟩
    a_Ties_taken_out := _, d_Ties_taken_out := _, F_Ties_taken_out := F21, b_Ties_taken_out := b21, me_Ties_taken_out := ⟨a21, i21, k21⟩
    a_Ties_copied := _, d_Ties_copied := _, F_Ties_copied := F22, b_Ties_copied := b22, me_Ties_copied := ⟨a22, i22, k22⟩
    a_Ties_eq := _, d_Ties_eq := _, F_Ties_eq := F23, b_Ties_eq := b23, me_Ties_eq := ⟨a23, i23, k23⟩
    a_Ties_told := _, d_Ties_told := _, F_Ties_told := F24, b_Ties_told := b24, me_Ties_told := ⟨a24, i24, k24⟩
    a_Ties_len := _, d_Ties_len := _, F_Ties_len := F25, b_Ties_len := b25, me_Ties_len := ⟨a25, i25, k25⟩
    a_made := _, d_made := _, F_made := F26, b_made := b26, m_made := PySem.W.mg_of X N a26
    a_are_worlds := _, d_are_worlds := _, F_are_worlds := F27, b_are_worlds := b27, m_are_worlds := PySem.W.mg_of X N a27
    a_are_pairs := _, d_are_pairs := _, F_are_pairs := F28, b_are_pairs := b28, m_are_pairs := PySem.W.mg_of X N a28
    a_is_tree := _, d_is_tree := _, F_is_tree := F29, b_is_tree := b29, m_is_tree := PySem.W.mg_of X N a29
    a_ties_of := _, d_ties_of := _, F_ties_of := F30, b_ties_of := b30, m_ties_of := PySem.W.mg_of X N a30
    a_law_pot := _, d_law_pot := _, F_law_pot := F31, b_law_pot := b31, m_law_pot := PySem.W.mg_of X N a31
    a_law_take := _, d_law_take := _, F_law_take := F32, b_law_take := b32, m_law_take := PySem.W.mg_of X N a32
    a_law_pick := _, d_law_pick := _, F_law_pick := F33, b_law_pick := b33, m_law_pick := PySem.W.mg_of X N a33
    a_law_grown := _, d_law_grown := _, F_law_grown := F34, b_law_grown := b34, m_law_grown := PySem.W.mg_of X N a34
    a_law_tree := _, d_law_tree := _, F_law_tree := F35, b_law_tree := b35, m_law_tree := PySem.W.mg_of X N a35
    a_law_numbers := _, d_law_numbers := _, F_law_numbers := F36, b_law_numbers := b36, m_law_numbers := PySem.W.mg_of X N a36
    a_law_all := _, d_law_all := _, F_law_all := F37, b_law_all := b37, m_law_all := PySem.W.mg_of X N a37
    a_law_cost := _, d_law_cost := _, F_law_cost := F38, b_law_cost := b38, m_law_cost := PySem.W.mg_of X N a38
    a_law_least := _, d_law_least := _, F_law_least := F39, b_law_least := b39, m_law_least := PySem.W.mg_of X N a39
    a_law_few := _, d_law_few := _, F_law_few := F40, b_law_few := b40, m_law_few := PySem.W.mg_of X N a40
    a_law_right := _, d_law_right := _, F_law_right := F41, b_law_right := b41, m_law_right := PySem.W.mg_of X N a41
    a_law := _, d_law := _, F_law := F42, b_law := b42, m_law := PySem.W.mg_of X N a42
    t_FEWEST_TIES := _, g_FEWEST_TIES := PySem.W.mg_of X N g_FEWEST_TIES
    n_LookupError := PySem.W.mg_none_of X N z_LookupError
    n_ValueError := PySem.W.mg_none_of X N z_ValueError
    n_all := PySem.W.mg_none_of X N z_all
    n_bool := PySem.W.mg_none_of X N z_bool
    n_dict := PySem.W.mg_none_of X N z_dict
    n_divmod := PySem.W.mg_none_of X N z_divmod
    n_int := PySem.W.mg_none_of X N z_int
    n_isinstance := PySem.W.mg_none_of X N z_isinstance
    n_len := PySem.W.mg_none_of X N z_len
    n_list := PySem.W.mg_none_of X N z_list
    n_max := PySem.W.mg_none_of X N z_max
    n_min := PySem.W.mg_none_of X N z_min
    n_range := PySem.W.mg_none_of X N z_range
    n_set := PySem.W.mg_none_of X N z_set
    n_sorted := PySem.W.mg_none_of X N z_sorted
    n_sum := PySem.W.mg_none_of X N z_sum
    n_tuple := PySem.W.mg_none_of X N z_tuple
    n_zip := PySem.W.mg_none_of X N z_zip
  }
  refine ⟨_, fun s v => .of_eq rfl, fun base _ _ => ok_law T⟩
end My
open PySem PySem.W PyProof.Rows in
set_option maxRecDepth 100000 in
set_option maxHeartbeats 0 in
theorem PySem.Challenge.cw_forkthrift_k33_whole_first_of_the_least_holds : PySem.Challenge.rw_forkthrift_k33_whole_first_of_the_least.Holds := by
  w_on; o_law; k_head; (case hw => w_witness2)
  k_fill
  refine G.walkG (l := PySem.Challenge.rw_forkthrift_k33_whole_first_of_the_least) (sp := My.sp_law) (x := "_law_script") (n := 63) (k := 9) rfl (by decide) rfl ⟨rfl, by decide, by decide⟩ (fun w h Y => PySem.W.kIn_of Y) ?F ?S
  case S => exact fun K H a ns hl hb ho hs => My.law_end hl hb ho hs
  case F =>
    intro w mg fa h KX N hmg
    refine' My.all_mk KX N hmg ?ac0 ?a0 ?l0 ?c0 ?k0 ?a1 ?l1 ?c1 ?k1 ?a2 ?l2 ?c2 ?k2 ?a3 ?l3 ?c3 ?k3 ?a4 ?l4 ?c4 ?k4 ?a5 ?l5 ?c5 ?k5 ?a6 ?l6 ?c6 ?k6 ?a7 ?l7 ?c7 ?k7 ?a8 ?i8 ?l8 ?c8 ?k8 ?a9 ?i9 ?l9 ?c9 ?k9 ?a10 ?i10 ?l10 ?c10 ?k10 ?a11 ?i11 ?l11 ?c11 ?k11 ?a12 ?i12 ?l12 ?c12 ?k12 ?a13 ?i13 ?l13 ?c13 ?k13 ?a14 ?i14 ?l14 ?c14 ?k14 ?a15 ?i15 ?l15 ?c15 ?k15 ?a16 ?i16 ?l16 ?c16 ?k16 ?a17 ?i17 ?l17 ?c17 ?k17 ?a18 ?i18 ?l18 ?c18 ?k18 ?a19 ?i19 ?l19 ?c19 ?k19 ?a20 ?i20 ?l20 ?c20 ?k20 ?a21 ?i21 ?l21 ?c21 ?k21 ?a22 ?i22 ?l22 ?c22 ?k22 ?a23 ?i23 ?l23 ?c23 ?k23 ?a24 ?i24 ?l24 ?c24 ?k24 ?a25 ?i25 ?l25 ?c25 ?k25 ?a26 ?l26 ?c26 ?k26 ?a27 ?l27 ?c27 ?k27 ?a28 ?l28 ?c28 ?k28 ?a29 ?l29 ?c29 ?k29 ?a30 ?l30 ?c30 ?k30 ?a31 ?l31 ?c31 ?k31 ?a32 ?l32 ?c32 ?k32 ?a33 ?l33 ?c33 ?k33 ?a34 ?l34 ?c34 ?k34 ?a35 ?l35 ?c35 ?k35 ?a36 ?l36 ?c36 ?k36 ?a37 ?l37 ?c37 ?k37 ?a38 ?l38 ?c38 ?k38 ?a39 ?l39 ?c39 ?k39 ?a40 ?l40 ?c40 ?k40 ?a41 ?l41 ?c41 ?k41 ?a42 ?l42 ?c42 ?k42 ?pg0 ?hd0 ?po0 ?sa0 ?mk0 ?kc0 ?na0_near ?na0_own_ever ?na0_own_living ?on ?ot ?oa0 ?om0 ?oc0_ ?oy0 ?nn0 ?g_FEWEST_TIES ?z_LookupError ?z_ValueError ?z_all ?z_bool ?z_dict ?z_divmod ?z_int ?z_isinstance ?z_len ?z_list ?z_max ?z_min ?z_range ?z_set ?z_sorted ?z_sum ?z_tuple ?z_zip
    (case ac0 => k_is)
    (case a0 => k_is)
    (case l0 => k_is)
    (case c0 => k_is)
    (case k0 => k_is)
    (case a1 => k_is)
    (case l1 => k_is)
    (case c1 => k_is)
    (case k1 => k_is)
    (case a2 => k_is)
    (case l2 => k_is)
    (case c2 => k_is)
    (case k2 => k_is)
    (case a3 => k_is)
    (case l3 => k_is)
    (case c3 => k_is)
    (case k3 => k_is)
    (case a4 => k_is)
    (case l4 => k_is)
    (case c4 => k_is)
    (case k4 => k_is)
    (case a5 => k_is)
    (case l5 => k_is)
    (case c5 => k_is)
    (case k5 => k_is)
    (case a6 => k_is)
    (case l6 => k_is)
    (case c6 => k_is)
    (case k6 => k_is)
    (case a7 => k_is)
    (case l7 => k_is)
    (case c7 => k_is)
    (case k7 => k_is)
    (case a8 => k_is)
    (case i8 => k_is)
    (case l8 => k_is)
    (case c8 => k_is)
    (case k8 => k_is)
    (case a9 => k_is)
    (case i9 => k_is)
    (case l9 => k_is)
    (case c9 => k_is)
    (case k9 => k_is)
    (case a10 => k_is)
    (case i10 => k_is)
    (case l10 => k_is)
    (case c10 => k_is)
    (case k10 => k_is)
    (case a11 => k_is)
    (case i11 => k_is)
    (case l11 => k_is)
    (case c11 => k_is)
    (case k11 => k_is)
    (case a12 => k_is)
    (case i12 => k_is)
    (case l12 => k_is)
    (case c12 => k_is)
    (case k12 => k_is)
    (case a13 => k_is)
    (case i13 => k_is)
    (case l13 => k_is)
    (case c13 => k_is)
    (case k13 => k_is)
    (case a14 => k_is)
    (case i14 => k_is)
    (case l14 => k_is)
    (case c14 => k_is)
    (case k14 => k_is)
    (case a15 => k_is)
    (case i15 => k_is)
    (case l15 => k_is)
    (case c15 => k_is)
    (case k15 => k_is)
    (case a16 => k_is)
    (case i16 => k_is)
    (case l16 => k_is)
    (case c16 => k_is)
    (case k16 => k_is)
    (case a17 => k_is)
    (case i17 => k_is)
    (case l17 => k_is)
    (case c17 => k_is)
    (case k17 => k_is)
    (case a18 => k_is)
    (case i18 => k_is)
    (case l18 => k_is)
    (case c18 => k_is)
    (case k18 => k_is)
    (case a19 => k_is)
    (case i19 => k_is)
    (case l19 => k_is)
    (case c19 => k_is)
    (case k19 => k_is)
    (case a20 => k_is)
    (case i20 => k_is)
    (case l20 => k_is)
    (case c20 => k_is)
    (case k20 => k_is)
    (case a21 => k_is)
    (case i21 => k_is)
    (case l21 => k_is)
    (case c21 => k_is)
    (case k21 => k_is)
    (case a22 => k_is)
    (case i22 => k_is)
    (case l22 => k_is)
    (case c22 => k_is)
    (case k22 => k_is)
    (case a23 => k_is)
    (case i23 => k_is)
    (case l23 => k_is)
    (case c23 => k_is)
    (case k23 => k_is)
    (case a24 => k_is)
    (case i24 => k_is)
    (case l24 => k_is)
    (case c24 => k_is)
    (case k24 => k_is)
    (case a25 => k_is)
    (case i25 => k_is)
    (case l25 => k_is)
    (case c25 => k_is)
    (case k25 => k_is)
    (case a26 => k_is)
    (case l26 => k_is)
    (case c26 => k_is)
    (case k26 => k_is)
    (case a27 => k_is)
    (case l27 => k_is)
    (case c27 => k_is)
    (case k27 => k_is)
    (case a28 => k_is)
    (case l28 => k_is)
    (case c28 => k_is)
    (case k28 => k_is)
    (case a29 => k_is)
    (case l29 => k_is)
    (case c29 => k_is)
    (case k29 => k_is)
    (case a30 => k_is)
    (case l30 => k_is)
    (case c30 => k_is)
    (case k30 => k_is)
    (case a31 => k_is)
    (case l31 => k_is)
    (case c31 => k_is)
    (case k31 => k_is)
    (case a32 => k_is)
    (case l32 => k_is)
    (case c32 => k_is)
    (case k32 => k_is)
    (case a33 => k_is)
    (case l33 => k_is)
    (case c33 => k_is)
    (case k33 => k_is)
    (case a34 => k_is)
    (case l34 => k_is)
    (case c34 => k_is)
    (case k34 => k_is)
    (case a35 => k_is)
    (case l35 => k_is)
    (case c35 => k_is)
    (case k35 => k_is)
    (case a36 => k_is)
    (case l36 => k_is)
    (case c36 => k_is)
    (case k36 => k_is)
    (case a37 => k_is)
    (case l37 => k_is)
    (case c37 => k_is)
    (case k37 => k_is)
    (case a38 => k_is)
    (case l38 => k_is)
    (case c38 => k_is)
    (case k38 => k_is)
    (case a39 => k_is)
    (case l39 => k_is)
    (case c39 => k_is)
    (case k39 => k_is)
    (case a40 => k_is)
    (case l40 => k_is)
    (case c40 => k_is)
    (case k40 => k_is)
    (case a41 => k_is)
    (case l41 => k_is)
    (case c41 => k_is)
    (case k41 => k_is)
    (case a42 => k_is)
    (case l42 => k_is)
    (case c42 => k_is)
    (case k42 => k_is)
    (case pg0 => k_is)
    (case hd0 => k_is)
    (case po0 => k_is)
    (case sa0 => k_is)
    (case mk0 => k_is)
    (case kc0 => k_is)
    (case na0_near => k_is)
    (case na0_own_ever => k_is)
    (case na0_own_living => k_is)
    (case on => k_is)
    (case ot => k_is)
    (case oa0 => k_is)
    (case om0 => k_is)
    (case oc0_ => k_is)
    (case oy0 => k_is)
    (case nn0 => k_is)
    (case g_FEWEST_TIES => k_is)
    (case z_LookupError => k_is)
    (case z_ValueError => k_is)
    (case z_all => k_is)
    (case z_bool => k_is)
    (case z_dict => k_is)
    (case z_divmod => k_is)
    (case z_int => k_is)
    (case z_isinstance => k_is)
    (case z_len => k_is)
    (case z_list => k_is)
    (case z_max => k_is)
    (case z_min => k_is)
    (case z_range => k_is)
    (case z_set => k_is)
    (case z_sorted => k_is)
    (case z_sum => k_is)
    (case z_tuple => k_is)
    (case z_zip => k_is)
#print axioms PySem.Challenge.cw_forkthrift_k33_whole_first_of_the_least_holds

